import PyProof.Rows.All
import Wide.All
import OpenK.AllK
import Wide.FinOn
import HandS.ForMost
import HandS.Exc
import HandS.TryOnly
import HandS.ExcOwn
import HandS.WordsExc
import HandS.Walk
import HandS.Conv
import HandS.ListItems
import KE.KDictCopyH
import KE.KDictWalk
import HandS.IsInst
import HandS.SetFor
import HandS.Strs
import HandS.More
import HandS.TupLen
import HandS.Style
import KE.DataMinMax
import PyProof.ExcBaseAll.ValueError
import HandS.Flow
import HandS.DictComp
import HandS.Zip
import KE.KTupTabMore
import KE.KItem
import HandS.ExcIs
import KE.KDictZip
import HandS.HotCalls
import KE.GoesRaise
import HandS.Text
import HandS.RaiseMore
import PySem.Challenge.RW_pairhues_k11_whole_lines_played
set_option Elab.async false
set_option linter.all false
section
set_option maxRecDepth 100000
set_option maxHeartbeats 4000000
/-! D4a: data over the hand layer: what a value stands for (D), the frozen part of the heap (G), the cells that may change (M). -/
namespace D4
open PySem L2

abbrev Fg := PySem.W.Frag
/-- data: plain, nested; scr: the script, read only; loc: the very value -/
inductive D where
  | non | bl (b : Bool) | int (i : Int) | str (s : Str)
  | lst (xs : List D) | tup (xs : List D) | scr (ns : List Int) | loc (v : V)

mutual
def Rep (K : Fg) (G : Hp) : D → V → Prop
  | .non, v => v = .non
  | .bl b, v => v = .bl b
  | .int i, v => v = .int i
  | .str s, v => v = .str s
  | .lst xs, v => ∃ a vs, v = .ref a ∧ G a = some (.lst vs) ∧ Reps K G xs vs
  | .tup xs, v => ∃ a vs, v = .ref a ∧ G a = some (.tup vs) ∧ Reps K G xs vs
  | .scr ns, v => ∃ a, v = .ref a ∧ SqL K G a (ns.map V.int)
  | .loc u, v => v = u
def Reps (K : Fg) (G : Hp) : List D → List V → Prop
  | [], vs => vs = []
  | d :: ds, vs => ∃ v r, vs = v :: r ∧ Rep K G d v ∧ Reps K G ds r
end

theorem sameT {K : Fg} {H H' : Hp} {a : Addr} {xs : List V} (e : Same H H') (h : SqT K H a xs) : SqT K H' a xs := by
  rcases h with (h | ⟨o, h⟩) | h
  · exact .inl (.inl (e _ _ h))
  · exact .inl (.inr ⟨o, e _ _ h⟩)
  · exact .inr h

mutual
theorem Rep.mono {K : Fg} {G G' : Hp} (e : Same G G') : ∀ (d : D) (v : V), Rep K G d v → Rep K G' d v
  | .non, v, h => by simpa only [Rep] using h
  | .bl b, v, h => by simpa only [Rep] using h
  | .int i, v, h => by simpa only [Rep] using h
  | .str s, v, h => by simpa only [Rep] using h
  | .lst xs, v, h => by
    simp only [Rep] at h ⊢
    obtain ⟨a, vs, h1, h2, h3⟩ := h
    exact ⟨a, vs, h1, e _ _ h2, Reps.mono e xs vs h3⟩
  | .tup xs, v, h => by
    simp only [Rep] at h ⊢
    obtain ⟨a, vs, h1, h2, h3⟩ := h
    exact ⟨a, vs, h1, e _ _ h2, Reps.mono e xs vs h3⟩
  | .scr ns, v, h => by
    simp only [Rep] at h ⊢
    obtain ⟨a, h1, h2⟩ := h
    exact ⟨a, h1, e.seq h2⟩
  | .loc u, v, h => by simpa only [Rep] using h
theorem Reps.mono {K : Fg} {G G' : Hp} (e : Same G G') : ∀ (ds : List D) (vs : List V), Reps K G ds vs → Reps K G' ds vs
  | [], vs, h => by simpa only [Reps] using h
  | d :: ds, vs, h => by
    simp only [Reps] at h ⊢
    obtain ⟨v, r, h1, h2, h3⟩ := h
    exact ⟨v, r, h1, Rep.mono e d v h2, Reps.mono e ds r h3⟩
end
section
variable {K : Fg} {G G' : Hp}
theorem Rep.int_iff {i : Int} {v : V} : Rep K G (.int i) v ↔ v = .int i := by simp only [Rep]
theorem Rep.bl_iff {i : Bool} {v : V} : Rep K G (.bl i) v ↔ v = .bl i := by simp only [Rep]
theorem Rep.str_iff {i : Str} {v : V} : Rep K G (.str i) v ↔ v = .str i := by simp only [Rep]
theorem Rep.non_iff {v : V} : Rep K G .non v ↔ v = .non := by simp only [Rep]
theorem Rep.loc_iff {u v : V} : Rep K G (.loc u) v ↔ v = u := by simp only [Rep]
theorem Rep.lst_iff {xs : List D} {v : V} : Rep K G (.lst xs) v ↔ ∃ a vs, v = .ref a ∧ G a = some (.lst vs) ∧ Reps K G xs vs := by simp only [Rep]
theorem Rep.tup_iff {xs : List D} {v : V} : Rep K G (.tup xs) v ↔ ∃ a vs, v = .ref a ∧ G a = some (.tup vs) ∧ Reps K G xs vs := by simp only [Rep]
theorem Rep.scr_iff {ns : List Int} {v : V} : Rep K G (.scr ns) v ↔ ∃ a, v = .ref a ∧ SqL K G a (ns.map V.int) := by simp only [Rep]
theorem Reps.nil : Reps K G [] [] := by simp only [Reps]
theorem Reps.cons {d : D} {ds : List D} {v : V} {vs : List V} (h : Rep K G d v) (t : Reps K G ds vs) : Reps K G (d :: ds) (v :: vs) := by simp only [Reps]; exact ⟨v, vs, rfl, h, t⟩
theorem Reps.nil_inv {vs : List V} (h : Reps K G [] vs) : vs = [] := by simpa only [Reps] using h
theorem Reps.cons_inv {d : D} {ds : List D} {vs : List V} (h : Reps K G (d :: ds) vs) : ∃ v r, vs = v :: r ∧ Rep K G d v ∧ Reps K G ds r := by simpa only [Reps] using h
theorem Reps.length : ∀ {ds : List D} {vs : List V}, Reps K G ds vs → ds.length = vs.length
  | [], vs, h => by rw [h.nil_inv]; rfl
  | d :: ds, vs, h => by
    obtain ⟨v, r, e, _, t⟩ := h.cons_inv
    rw [e, List.length_cons, List.length_cons, t.length]
theorem Reps.append : ∀ {ds es : List D} {vs ws : List V}, Reps K G ds vs → Reps K G es ws → Reps K G (ds ++ es) (vs ++ ws)
  | [], es, vs, ws, h, h' => by rw [h.nil_inv]; exact h'
  | d :: ds, es, vs, ws, h, h' => by
    obtain ⟨v, r, e, h1, t⟩ := h.cons_inv
    subst e
    exact .cons h1 (t.append h')
theorem Reps.get : ∀ {ds : List D} {vs : List V} {i : Nat} {d : D}, Reps K G ds vs → ds[i]? = some d → ∃ v, vs[i]? = some v ∧ Rep K G d v
  | [], vs, i, d, h, e => by simp at e
  | d :: ds, vs, 0, d', h, e => by
    obtain ⟨v, r, ev, h1, t⟩ := h.cons_inv
    subst ev
    have : d = d' := by simpa using e
    subst this
    exact ⟨v, rfl, h1⟩
  | d :: ds, vs, i + 1, d', h, e => by
    obtain ⟨v, r, ev, h1, t⟩ := h.cons_inv
    subst ev
    obtain ⟨u, h2, h3⟩ := t.get (i := i) (d := d') (by simpa using e)
    exact ⟨u, by simpa using h2, h3⟩
theorem Reps.get' : ∀ {ds : List D} {vs : List V} {i : Nat} {v : V}, Reps K G ds vs → vs[i]? = some v → ∃ d, ds[i]? = some d ∧ Rep K G d v
  | [], vs, i, v, h, e => by rw [h.nil_inv] at e; simp at e
  | d :: ds, vs, 0, v, h, e => by
    obtain ⟨v', r, ev, h1, t⟩ := h.cons_inv
    subst ev
    have : v' = v := by simpa using e
    subst this
    exact ⟨d, rfl, h1⟩
  | d :: ds, vs, i + 1, v, h, e => by
    obtain ⟨v', r, ev, h1, t⟩ := h.cons_inv
    subst ev
    obtain ⟨u, h2, h3⟩ := t.get' (i := i) (v := v) (by simpa using e)
    exact ⟨u, by simpa using h2, h3⟩
theorem Reps.set : ∀ {ds : List D} {vs : List V} {d : D} {v : V} (i : Nat), Reps K G ds vs → Rep K G d v → Reps K G (ds.set i d) (vs.set i v)
  | [], vs, d, v, i, h, e => by cases h.nil_inv; exact Reps.nil
  | d :: ds, vs, d', v', 0, h, e => by
    obtain ⟨v, r, ev, h1, t⟩ := h.cons_inv
    subst ev
    exact .cons e t
  | d :: ds, vs, d', v', i + 1, h, e => by
    obtain ⟨v, r, ev, h1, t⟩ := h.cons_inv
    subst ev
    exact .cons h1 (t.set i e)
theorem Reps.drop : ∀ {ds : List D} {vs : List V} (i : Nat), Reps K G ds vs → Reps K G (ds.drop i) (vs.drop i)
  | ds, vs, 0, h => h
  | [], vs, i + 1, h => by cases h.nil_inv; exact Reps.nil
  | d :: ds, vs, i + 1, h => by
    obtain ⟨v, r, ev, h1, t⟩ := h.cons_inv
    subst ev
    exact t.drop i
theorem Reps.take : ∀ {ds : List D} {vs : List V} (i : Nat), Reps K G ds vs → Reps K G (ds.take i) (vs.take i)
  | ds, vs, 0, h => Reps.nil
  | [], vs, i + 1, h => by cases h.nil_inv; exact Reps.nil
  | d :: ds, vs, i + 1, h => by
    obtain ⟨v, r, ev, h1, t⟩ := h.cons_inv
    subst ev
    exact .cons h1 (t.take i)
theorem Reps.ints : ∀ {ns : List Int} {vs : List V}, Reps K G (ns.map D.int) vs → vs = ns.map V.int
  | [], vs, h => h.nil_inv
  | n :: ns, vs, h => by
    obtain ⟨v, r, ev, h1, t⟩ := h.cons_inv
    rw [Rep.int_iff] at h1
    rw [ev, h1, t.ints]; rfl
theorem Reps.bls : ∀ {ns : List Bool} {vs : List V}, Reps K G (ns.map D.bl) vs → vs = ns.map V.bl
  | [], vs, h => h.nil_inv
  | n :: ns, vs, h => by
    obtain ⟨v, r, ev, h1, t⟩ := h.cons_inv
    rw [Rep.bl_iff] at h1
    rw [ev, h1, t.bls]; rfl
theorem Reps.strs : ∀ {ns : List Str} {vs : List V}, Reps K G (ns.map D.str) vs → vs = ns.map V.str
  | [], vs, h => h.nil_inv
  | n :: ns, vs, h => by
    obtain ⟨v, r, ev, h1, t⟩ := h.cons_inv
    rw [Rep.str_iff] at h1
    rw [ev, h1, t.strs]; rfl
theorem Reps.of_ints : ∀ (ns : List Int), Reps K G (ns.map D.int) (ns.map V.int)
  | [] => .nil
  | n :: ns => .cons (Rep.int_iff.mpr rfl) (Reps.of_ints ns)
theorem Reps.of_bls : ∀ (ns : List Bool), Reps K G (ns.map D.bl) (ns.map V.bl)
  | [] => .nil
  | n :: ns => .cons (Rep.bl_iff.mpr rfl) (Reps.of_bls ns)
theorem Reps.of_strs : ∀ (ns : List Str), Reps K G (ns.map D.str) (ns.map V.str)
  | [] => .nil
  | n :: ns => .cons (Rep.str_iff.mpr rfl) (Reps.of_strs ns)
end

/-! ### cells -/
inductive C where
  | lst (xs : List D) | dI (kvs : List (Int × D)) | dT (kvs : List (List Int × D)) | ins (C dx : Addr) (fs : List (Str × D)) | dZ (od : Obj) (kvs : List (Int × D)) (ws : List (Key × V)) | dTZ (od : Obj) (kvs : List (List Int × D)) (ws : List (List Key × V))
def keyI (k : Int) : Key := .inl k
def keyT (k : List Int) : List Key := k.map keyI
abbrev RepI (K : Fg) (G : Hp) : List (Int × D) → List (Key × V) → Prop := Paired fun p q => q.1 = keyI p.1 ∧ Rep K G p.2 q.2
abbrev RepT (K : Fg) (G : Hp) : List (List Int × D) → List (List Key × V) → Prop := Paired fun p q => q.1 = keyT p.1 ∧ Rep K G p.2 q.2
abbrev RepF (K : Fg) (G : Hp) : List (Str × D) → List (Str × V) → Prop := Paired fun p q => q.1 = p.1 ∧ Rep K G p.2 q.2
theorem Paired.imp {α β : Type} {F F' : α → β → Prop} (f : ∀ a b, F a b → F' a b) : ∀ {l : List α} {r : List β}, Paired F l r → Paired F' l r
  | _, _, .nil => .nil
  | _, _, .cons h t => .cons (f _ _ h) (Paired.imp f t)
def COk (K : Fg) (G : Hp) : C → HO → Prop
  | .lst xs, o => ∃ vs, o = .lst vs ∧ Reps K G xs vs
  | .dI kvs, o => ∃ ws, o = .dK ws ∧ RepI K G kvs ws
  | .dT kvs, o => ∃ ws, o = .dT ws ∧ RepT K G kvs ws
  | .ins c dx fs, o => ∃ gs, o = .ins c dx gs ∧ RepF K G fs gs
  | .dZ od kvs ws, o => o = .frz od (.dK ws) ∧ RepI K G kvs ws
  | .dTZ od kvs ws, o => o = .frz od (.dT ws) ∧ RepT K G kvs ws
theorem COk.mono {K : Fg} {G G' : Hp} (e : Same G G') : ∀ {c : C} {o : HO}, COk K G c o → COk K G' c o
  | .lst xs, o, ⟨vs, h1, h2⟩ => ⟨vs, h1, h2.mono e⟩
  | .dI xs, o, ⟨vs, h1, h2⟩ => ⟨vs, h1, Paired.imp (fun _ _ h => ⟨h.1, h.2.mono e⟩) h2⟩
  | .dT xs, o, ⟨vs, h1, h2⟩ => ⟨vs, h1, Paired.imp (fun _ _ h => ⟨h.1, h.2.mono e⟩) h2⟩
  | .ins c dx xs, o, ⟨vs, h1, h2⟩ => ⟨vs, h1, Paired.imp (fun _ _ h => ⟨h.1, h.2.mono e⟩) h2⟩
  | .dZ od xs ws, o, ⟨h1, h2⟩ => ⟨h1, Paired.imp (fun _ _ h => ⟨h.1, h.2.mono e⟩) h2⟩
  | .dTZ od xs ws, o, ⟨h1, h2⟩ => ⟨h1, Paired.imp (fun _ _ h => ⟨h.1, h.2.mono e⟩) h2⟩

abbrev Mp := Addr → Option C
def um (M : Mp) (a : Addr) (c : C) : Mp := fun b => if b = a then some c else M b
theorem um_same {M : Mp} {a : Addr} {c : C} : um M a c a = some c := by unfold um; rw [if_pos rfl]
theorem um_ne {M : Mp} {a b : Addr} {c : C} (h : b ≠ a) : um M a c b = M b := by unfold um; rw [if_neg h]
theorem um_um {M : Mp} {a : Addr} {c c' : C} : um (um M a c) a c' = um M a c' := by funext b; unfold um; split <;> rfl
/-- forget a cell -/
def dm (M : Mp) (a : Addr) : Mp := fun b => if b = a then none else M b
theorem dm_um {M : Mp} {a : Addr} {c : C} (h : M a = none) : dm (um M a c) a = M := by
  funext b; unfold dm um; by_cases e : b = a
  · rw [if_pos e, e, h]
  · rw [if_neg e, if_neg e]
theorem dm_ne {M : Mp} {a b : Addr} (h : b ≠ a) : dm M a b = M b := by unfold dm; rw [if_neg h]
theorem um_old {M : Mp} {a b : Addr} {c c' : C} (h : M b = some c') (h0 : M a = none) : um M a c b = some c' := by
  rw [um_ne]; exact h
  intro e; rw [e, h0] at h; cases h
theorem ne_m {M : Mp} {a b : Addr} {c : C} (h : M b = some c) (h0 : M a = none) : b ≠ a := by
  intro e; rw [e, h0] at h; cases h

/-- the ground: what was frozen at the entry, the heap at the entry, what may be changed of it -/
structure Bs where
  G0 : Hp
  H0 : Hp
  own : Addr → Prop

/-- new since the entry; may be written -/
def Nw (b : Bs) (p : Addr) : Prop := b.H0 p = none
def Wr (b : Bs) (p : Addr) : Prop := b.H0 p = none ∨ b.own p
theorem Nw.wr {b : Bs} {p : Addr} (h : Nw b p) : Wr b p := .inl h

structure SO (K : Fg) (b : Bs) (M : Mp) (G H : Hp) : Prop where
  g0 : Same b.G0 G
  gh : Same G H
  cel : ∀ a c, M a = some c → G a = none ∧ ∃ o, H a = some o ∧ COk K G c o
  fr : ∀ a o, b.H0 a = some o → ¬ b.own a → H a = some o
  dom : ∀ a, b.H0 a ≠ none → H a ≠ none
def SS (K : Fg) (b : Bs) (M : Mp) (R : Hp → Prop) (H : Hp) : Prop := ∃ G, SO K b M G H ∧ R G
def Mono (R : Hp → Prop) : Prop := ∀ G G', Same G G' → R G → R G'
theorem Mono.and {R R' : Hp → Prop} (a : Mono R) (b : Mono R') : Mono (fun G => R G ∧ R' G) := fun G G' e h => ⟨a G G' e h.1, b G G' e h.2⟩
theorem Mono.rep {K : Fg} {d : D} {v : V} : Mono (fun G => Rep K G d v) := fun G G' e h => h.mono e
theorem Mono.reps {K : Fg} {d : List D} {v : List V} : Mono (fun G => Reps K G d v) := fun G G' e h => h.mono e
theorem Mono.tt : Mono (fun _ => True) := fun _ _ _ h => h
def Env (K : Fg) (G : Hp) (σ : St) (δ : List (Option D)) : Prop := σ.length = δ.length ∧ ∀ (i : Nat) (d : D), δ[i]? = some (some d) → ∃ v, σ[i]? = some (some v) ∧ Rep K G d v
theorem Mono.env {K : Fg} {σ : St} {δ : List (Option D)} : Mono (fun G => Env K G σ δ) := fun G G' e h => ⟨h.1, fun i d q => let ⟨v, h1, h2⟩ := h.2 i d q; ⟨v, h1, h2.mono e⟩⟩
theorem Env.set {K : Fg} {G : Hp} {σ : St} {δ : List (Option D)} {d : D} {v : V} (i : Nat) (h : Env K G σ δ) (r : Rep K G d v) : Env K G (σ.set i (some v)) (δ.set i (some d)) := by
  refine ⟨by simpa using h.1, fun j d' e => ?_⟩
  by_cases hj : i = j
  · subst hj
    by_cases hi : i < δ.length
    · rw [List.getElem?_set_self hi] at e
      have : d = d' := by simpa using e
      subst this
      exact ⟨v, by rw [List.getElem?_set_self (by rw [h.1]; exact hi)], r⟩
    · rw [List.getElem?_eq_none (by simpa using hi)] at e; cases e
  · rw [List.getElem?_set_ne hj] at e ⊢
    exact h.2 j d' e
theorem Env.forget {K : Fg} {G : Hp} {σ : St} {δ : List (Option D)} {o : Option V} (i : Nat) (h : Env K G σ δ) : Env K G (σ.set i o) (δ.set i none) := by
  refine ⟨by simpa using h.1, fun j d' e => ?_⟩
  by_cases hj : i = j
  · subst hj
    by_cases hi : i < δ.length
    · rw [List.getElem?_set_self hi] at e; cases e
    · rw [List.getElem?_eq_none (by simpa using hi)] at e; cases e
  · rw [List.getElem?_set_ne hj] at e ⊢
    exact h.2 j d' e
theorem Env.weak {K : Fg} {G : Hp} {σ : St} {δ δ' : List (Option D)} (h : Env K G σ δ) (hl : δ'.length = δ.length) (hw : ∀ (i : Nat) (d : D), δ'[i]? = some (some d) → δ[i]? = some (some d)) : Env K G σ δ' :=
  ⟨h.1.trans hl.symm, fun i d e => h.2 i d (hw i d e)⟩

section
variable {K : Fg} {b : Bs} {M : Mp} {G H : Hp} {p : Addr}
/-- a new object is frozen -/
theorem SO.frz (S : SO K b M G H) (hp : H p = none) (o : HO) : SO K b M (upd G p o) (upd H p o) ∧ Same G (upd G p o) := by
  have gp : G p = none := S.gh.free hp
  have sg : Same G (upd G p o) := fun a u e => by rw [upd_ne (ne_of_none e gp)]; exact e
  refine ⟨⟨S.g0.trans sg, fun a u e => ?_, fun a c e => ?_, fun a u e1 e2 => ?_, fun a e => ?_⟩, sg⟩
  · by_cases h : a = p
    · subst h; rw [upd_same] at e ⊢; exact e
    · rw [upd_ne h] at e ⊢; exact S.gh a u e
  · obtain ⟨h1, o', h2, h3⟩ := S.cel a c e
    have ne : a ≠ p := ne_of_none h2 hp
    exact ⟨by rw [upd_ne ne]; exact h1, o', by rw [upd_ne ne]; exact h2, h3.mono sg⟩
  · rw [upd_ne (ne_of_none (S.fr a u e1 e2) hp)]; exact S.fr a u e1 e2
  · have := S.dom a e
    by_cases h : a = p
    · subst h; rw [upd_same]; simp
    · rw [upd_ne h]; exact this
/-- a new cell -/
theorem SO.cell (S : SO K b M G H) (hp : H p = none) {c : C} {o : HO} (hc : COk K G c o) : SO K b (um M p c) G (upd H p o) := by
  have gp : G p = none := S.gh.free hp
  refine ⟨S.g0, fun a u e => ?_, fun a c' e => ?_, fun a u e1 e2 => ?_, fun a e => ?_⟩
  · rw [upd_ne (ne_of_none e gp)]; exact S.gh a u e
  · by_cases h : a = p
    · subst h; rw [um_same] at e; cases e
      exact ⟨gp, o, upd_same, hc⟩
    · rw [um_ne h] at e
      obtain ⟨h1, o', h2, h3⟩ := S.cel a c' e
      exact ⟨h1, o', by rw [upd_ne h]; exact h2, h3⟩
  · rw [upd_ne (ne_of_none (S.fr a u e1 e2) hp)]; exact S.fr a u e1 e2
  · have := S.dom a e
    by_cases h : a = p
    · subst h; rw [upd_same]; simp
    · rw [upd_ne h]; exact this
theorem SO.new (S : SO K b M G H) (hp : H p = none) : M p = none ∧ Nw b p ∧ G p = none := by
  refine ⟨?_, ?_, S.gh.free hp⟩
  · cases e : M p with
    | none => rfl
    | some c =>
      obtain ⟨_, o, h, _⟩ := S.cel p c e
      rw [hp] at h; cases h
  · show b.H0 p = none
    cases e : b.H0 p with
    | none => rfl
    | some o => exact absurd hp (S.dom p (by rw [e]; simp))
/-- a cell is changed -/
theorem SO.set (S : SO K b M G H) {c c' : C} {o' : HO} (hm : M p = some c) (hw : Wr b p) (hc : COk K G c' o') : SO K b (um M p c') G (upd H p o') := by
  obtain ⟨gp, o, hp, _⟩ := S.cel p c hm
  refine ⟨S.g0, fun a u e => ?_, fun a c' e => ?_, fun a u e1 e2 => ?_, fun a e => ?_⟩
  · rw [upd_ne (ne_of_none e gp)]; exact S.gh a u e
  · by_cases h : a = p
    · subst h; rw [um_same] at e; cases e
      exact ⟨gp, o', upd_same, hc⟩
    · rw [um_ne h] at e
      obtain ⟨h1, o', h2, h3⟩ := S.cel a c' e
      exact ⟨h1, o', by rw [upd_ne h]; exact h2, h3⟩
  · have ne : a ≠ p := by
      intro h; subst h
      rcases hw with hw | hw
      · rw [hw] at e1; cases e1
      · exact e2 hw
    rw [upd_ne ne]; exact S.fr a u e1 e2
  · have := S.dom a e
    by_cases h : a = p
    · subst h; rw [upd_same]; simp
    · rw [upd_ne h]; exact this
/-- a cell that is a list is frozen -/
theorem SO.freeze (S : SO K b M G H) {xs : List D} (hm : M p = some (.lst xs)) (hw : Nw b p) :
    ∃ G', SO K b (dm M p) G' H ∧ Same G G' ∧ Rep K G' (.lst xs) (.ref p) := by
  obtain ⟨gp, o, hp, vs, ho, hr⟩ := S.cel p _ hm
  subst ho
  have sg : Same G (upd G p (.lst vs)) := fun a u e => by rw [upd_ne (ne_of_none e gp)]; exact e
  refine ⟨upd G p (.lst vs), ⟨S.g0.trans sg, fun a u e => ?_, fun a c e => ?_, S.fr, S.dom⟩, sg, ?_⟩
  · by_cases h : a = p
    · subst h; rw [upd_same] at e; cases e; exact hp
    · rw [upd_ne h] at e; exact S.gh a u e
  · by_cases h : a = p
    · subst h; unfold dm at e; rw [if_pos rfl] at e; cases e
    · rw [dm_ne h] at e
      obtain ⟨h1, o', h2, h3⟩ := S.cel a c e
      exact ⟨by rw [upd_ne h]; exact h1, o', h2, h3.mono sg⟩
  · rw [Rep.lst_iff]
    exact ⟨p, vs, rfl, upd_same, hr.mono sg⟩
/-- fewer cells -/
theorem SO.less (S : SO K b M G H) {M' : Mp} (h : ∀ a c, M' a = some c → M a = some c) : SO K b M' G H :=
  ⟨S.g0, S.gh, fun a c e => S.cel a c (h a c e), S.fr, S.dom⟩
/-- the ground of a callee -/
theorem SO.sub (S : SO K b M G H) (own : Addr → Prop) : SO K ⟨G, H, own⟩ M G H :=
  ⟨Same.refl G, S.gh, S.cel, fun a o e _ => e, fun a e => e⟩
/-- back from a callee -/
theorem SO.back (S : SO K b M G H) {own : Addr → Prop} {M' : Mp} {G' H' : Hp} (S' : SO K ⟨G, H, own⟩ M' G' H') (ho : ∀ a, own a → Wr b a) : SO K b M' G' H' := by
  refine ⟨S.g0.trans S'.g0, S'.gh, S'.cel, fun a o e1 e2 => ?_, fun a e => S'.dom a (S.dom a e)⟩
  refine S'.fr a o (S.fr a o e1 e2) fun q => ?_
  rcases ho a q with z | z
  · rw [z] at e1; cases e1
  · exact e2 z
/-- a dict is locked: a ground of its own -/
def lk (b : Bs) (G H : Hp) (a : Addr) (od : Obj) (u : HO) : Bs := ⟨G, upd H a (.frz od u), fun x => Wr b x⟩
theorem SO.wr_lk (S : SO K b M G H) {a : Addr} {od : Obj} {u : HO} (h : H a = some u) (x : Addr) : Wr (lk b G H a od u) x ↔ Wr b x := by
  constructor
  · rintro (h1 | h1)
    · have h1 : upd H a (.frz od u) x = none := h1
      have ne : x ≠ a := by intro e; rw [e, upd_same] at h1; cases h1
      rw [upd_ne ne] at h1
      exact .inl (S.new h1).2.1
    · exact h1
  · exact fun h1 => .inr h1
theorem SO.lock (S : SO K b M G H) {a : Addr} {kvs : List (Int × D)} (hm : M a = some (.dI kvs)) :
    ∃ ws, H a = some (.dK ws) ∧ ∀ od, SO K (lk b G H a od (.dK ws)) (um M a (.dZ od kvs ws)) G (upd H a (.frz od (.dK ws))) := by
  obtain ⟨gp, o, hp, ws, ho, hr⟩ := S.cel a _ hm
  subst ho
  refine ⟨ws, hp, fun od => ⟨Same.refl G, fun x u e => ?_, fun x c e => ?_, fun x o e _ => e, fun x e => e⟩⟩
  · rw [upd_ne (ne_of_none e gp)]; exact S.gh x u e
  · by_cases h : x = a
    · subst h; rw [um_same] at e; cases e
      exact ⟨gp, _, upd_same, rfl, hr⟩
    · rw [um_ne h] at e
      obtain ⟨h1, o', h2, h3⟩ := S.cel x c e
      exact ⟨h1, o', by rw [upd_ne h]; exact h2, h3⟩
theorem SO.unlock (S : SO K b M G H) {a : Addr} {kvs : List (Int × D)} {ws : List (Key × V)} (hp : H a = some (.dK ws)) {od : Obj} {M' : Mp} {G' H' : Hp} (S' : SO K (lk b G H a od (.dK ws)) M' G' H') (hm : M' a = some (.dZ od kvs ws)) :
    H' a = some (.frz od (.dK ws)) ∧ SO K b (um M' a (.dI kvs)) G' (upd H' a (.dK ws)) := by
  obtain ⟨gp, o, ho, e, hr⟩ := S'.cel a _ hm
  subst e
  refine ⟨ho, S.g0.trans S'.g0, fun x u e => ?_, fun x c e => ?_, fun x o e1 e2 => ?_, fun x e => ?_⟩
  · rw [upd_ne (ne_of_none e gp)]; exact S'.gh x u e
  · by_cases h : x = a
    · subst h; rw [um_same] at e; cases e
      exact ⟨gp, _, upd_same, ws, rfl, hr⟩
    · rw [um_ne h] at e
      obtain ⟨h1, o', h2, h3⟩ := S'.cel x c e
      exact ⟨h1, o', by rw [upd_ne h]; exact h2, h3⟩
  · have hx := S.fr x o e1 e2
    by_cases h : x = a
    · subst h; rw [hp] at hx; rw [upd_same]; exact hx
    · rw [upd_ne h]
      refine S'.fr x o (by show upd H a (.frz od (.dK ws)) x = some o; rw [upd_ne h]; exact hx) ?_
      rintro (z | z)
      · rw [z] at e1; cases e1
      · exact e2 z
  · by_cases h : x = a
    · subst h; rw [upd_same]; simp
    · rw [upd_ne h]
      refine S'.dom x ?_
      show upd H a (.frz od (.dK ws)) x ≠ none
      rw [upd_ne h]; exact S.dom x e
theorem SO.lockT (S : SO K b M G H) {a : Addr} {kvs : List (List Int × D)} (hm : M a = some (.dT kvs)) :
    ∃ ws, H a = some (.dT ws) ∧ ∀ od, SO K (lk b G H a od (.dT ws)) (um M a (.dTZ od kvs ws)) G (upd H a (.frz od (.dT ws))) := by
  obtain ⟨gp, o, hp, ws, ho, hr⟩ := S.cel a _ hm
  subst ho
  refine ⟨ws, hp, fun od => ⟨Same.refl G, fun x u e => ?_, fun x c e => ?_, fun x o e _ => e, fun x e => e⟩⟩
  · rw [upd_ne (ne_of_none e gp)]; exact S.gh x u e
  · by_cases h : x = a
    · subst h; rw [um_same] at e; cases e
      exact ⟨gp, _, upd_same, rfl, hr⟩
    · rw [um_ne h] at e
      obtain ⟨h1, o', h2, h3⟩ := S.cel x c e
      exact ⟨h1, o', by rw [upd_ne h]; exact h2, h3⟩
theorem SO.unlockT (S : SO K b M G H) {a : Addr} {kvs : List (List Int × D)} {ws : List (List Key × V)} (hp : H a = some (.dT ws)) {od : Obj} {M' : Mp} {G' H' : Hp} (S' : SO K (lk b G H a od (.dT ws)) M' G' H') (hm : M' a = some (.dTZ od kvs ws)) :
    H' a = some (.frz od (.dT ws)) ∧ SO K b (um M' a (.dT kvs)) G' (upd H' a (.dT ws)) := by
  obtain ⟨gp, o, ho, e, hr⟩ := S'.cel a _ hm
  subst e
  refine ⟨ho, S.g0.trans S'.g0, fun x u e => ?_, fun x c e => ?_, fun x o e1 e2 => ?_, fun x e => ?_⟩
  · rw [upd_ne (ne_of_none e gp)]; exact S'.gh x u e
  · by_cases h : x = a
    · subst h; rw [um_same] at e; cases e
      exact ⟨gp, _, upd_same, ws, rfl, hr⟩
    · rw [um_ne h] at e
      obtain ⟨h1, o', h2, h3⟩ := S'.cel x c e
      exact ⟨h1, o', by rw [upd_ne h]; exact h2, h3⟩
  · have hx := S.fr x o e1 e2
    by_cases h : x = a
    · subst h; rw [hp] at hx; rw [upd_same]; exact hx
    · rw [upd_ne h]
      refine S'.fr x o (by show upd H a (.frz od (.dT ws)) x = some o; rw [upd_ne h]; exact hx) ?_
      rintro (z | z)
      · rw [z] at e1; cases e1
      · exact e2 z
  · by_cases h : x = a
    · subst h; rw [upd_same]; simp
    · rw [upd_ne h]
      refine S'.dom x ?_
      show upd H a (.frz od (.dT ws)) x ≠ none
      rw [upd_ne h]; exact S.dom x e
/-- a tuple that stands in the heap may be frozen -/
theorem SO.frzT (S : SO K b M G H) {vs : List V} (hp : H p = some (.tup vs)) : SO K b M (upd G p (.tup vs)) H ∧ Same G (upd G p (.tup vs)) := by
  have sg : Same G (upd G p (.tup vs)) := fun a u e => by
    by_cases h : a = p
    · subst h
      have := S.gh a u e
      rw [hp] at this
      rw [upd_same, this]
    · rw [upd_ne h]; exact e
  refine ⟨⟨S.g0.trans sg, fun a u e => ?_, fun a c e => ?_, S.fr, S.dom⟩, sg⟩
  · by_cases h : a = p
    · subst h; rw [upd_same] at e; cases e; exact hp
    · rw [upd_ne h] at e; exact S.gh a u e
  · obtain ⟨h1, o, h2, h3⟩ := S.cel a c e
    have ne : a ≠ p := by
      intro h; subst h
      rw [hp] at h2; cases h2
      cases c with
      | lst xs => obtain ⟨_, q, _⟩ := h3; cases q
      | dI xs => obtain ⟨_, q, _⟩ := h3; cases q
      | dT xs => obtain ⟨_, q, _⟩ := h3; cases q
      | ins c dx xs => obtain ⟨_, q, _⟩ := h3; cases q
      | dZ od xs ws => obtain ⟨q, _⟩ := h3; cases q
      | dTZ od xs ws => obtain ⟨q, _⟩ := h3; cases q
    exact ⟨by rw [upd_ne ne]; exact h1, o, h2, h3.mono sg⟩
theorem SS.imp {R R' : Hp → Prop} (h : SS K b M R H) (f : ∀ G, R G → R' G) : SS K b M R' H := let ⟨G, s, r⟩ := h; ⟨G, s, f G r⟩
end
end D4
end

section
set_option maxRecDepth 100000
set_option maxHeartbeats 4000000
/-! D4b: expressions, arguments, tests, statements by what they stand for. -/
namespace D4
open PySem L2
def isStar : Expr → Bool
  | .Starred _ _ => true
  | _ => false
theorem starEach_c {e : Expr} {es : List Expr} {env : PySem.Env} (h : isStar e = false) : starEach (e :: es) env = (false, eval e env) :: starEach es env := by
  cases e <;> first | (simp only [starEach]; done) | (cases h)
theorem starEach_0 {env : PySem.Env} : starEach [] env = [] := by simp only [starEach]
theorem starEach_1 {e : Expr} {env : PySem.Env} (h : isStar e = false) : starEach [e] env = [(false, eval e env)] := by rw [starEach_c h, starEach_0]
def noStar : List Expr → Bool
  | [] => true
  | e :: es => !isStar e && noStar es
theorem star_map {es : List Expr} {env : PySem.Env} (h : noStar es = true) : ∀ x ∈ starEach es env, x.1 = false := by
  induction es with
  | nil => rw [starEach_0]; intro x hx; cases hx
  | cons e es ih =>
    have h' : (!isStar e && noStar es) = true := h
    rw [Bool.and_eq_true, Bool.not_eq_true'] at h'
    rw [starEach_c h'.1]
    intro x hx
    rcases List.mem_cons.mp hx with e | hx
    · rw [e]
    · exact ih h'.2 x hx
theorem back_any {pos : Pos} {es : List Expr} {env : PySem.Env} (h : noStar es = true) : (backTo pos (starEach es env)).any (·.1) = false := by
  rw [Bool.eq_false_iff]
  intro hh
  obtain ⟨x, hx, h1⟩ := List.any_eq_true.mp hh
  unfold backTo at hx
  obtain ⟨y, hy, e⟩ := List.mem_map.mp hx
  have h2 := star_map h y hy
  subst e
  obtain ⟨a, b⟩ := y
  simp only at h1 h2
  rw [h2] at h1
  cases h1
theorem few_ok {pos : Pos} {es : List Expr} {env : PySem.Env} (h : (noStar es && decide (es.length < 30)) = true) : ((backTo pos (starEach es env)).all (fun x => !x.1) && (backToKw pos (keywordEach [] env)).all (fun x => x.1.isSome)
      && decide (es.length + ([] : List Keyword).length + (if ([] : List Keyword).isEmpty then 0 else 1) < 30)) = true := by
  rw [Bool.and_eq_true, decide_eq_true_eq] at h
  have h1 : (backTo pos (starEach es env)).all (fun x => !x.1) = true := by
    rw [List.all_eq_true]
    intro x hx
    unfold backTo at hx
    obtain ⟨y, hy, e⟩ := List.mem_map.mp hx
    have h2 := star_map h.1 y hy
    subst e
    obtain ⟨a, b⟩ := y
    simp only at h2
    subst h2
    rfl
  have h2 : (backToKw pos (keywordEach [] env)).all (fun x => x.1.isSome) = true := by
    rw [show keywordEach [] env = [] by simp only [keywordEach]]; rfl
  rw [h1, h2]
  simpa using h.2

abbrev Od := List (Option D)
/-! ### the judgements' readings by meaning alone -/
structure WE (X : Cx) (e : Expr) (σ : L2.St) (H : Hp) (Q : VK) : Prop where
  run : ∀ (pins : List (Addr × Obj)) (s : Shared), Inv X pins σ H s → wpAny (model X.prog X.w) X.A (eval e X.env) (EP X pins σ Q) X.xe s
theorem pe_we {X : Cx} {e : Expr} : PE X e (WE X e) := ⟨fun pins s σ H Q I h => h.run pins s I⟩
theorem we_of {X : Cx} {e : Expr} {t : TE} {σ : L2.St} {H : Hp} {Q : VK} (h : PE X e t) (q : t σ H Q) : WE X e σ H Q := ⟨fun pins s I => h.run pins s σ H Q I q⟩
structure WT (X : Cx) (e : Expr) (σ : L2.St) (H : Hp) (Q : Bool → Hp → Prop) : Prop where
  run : ∀ (pins : List (Addr × Obj)) (s : Shared), Inv X pins σ H s → wpAny (model X.prog X.w) X.A (isTrue e X.env (eval e X.env)) (TP X pins σ Q) X.xe s
theorem pt_wt {X : Cx} {e : Expr} : PT X e (WT X e) := ⟨fun pins s σ H Q I h => h.run pins s I⟩
theorem wt_of {X : Cx} {e : Expr} {t : TT} {σ : L2.St} {H : Hp} {Q : Bool → Hp → Prop} (h : PT X e t) (q : t σ H Q) : WT X e σ H Q := ⟨fun pins s I => h.run pins s σ H Q I q⟩
structure WW (X : Cx) (e : Expr) (σ : L2.St) (H : Hp) (Q : Bool → Hp → Prop) : Prop where
  run : ∀ (whole : Sem Value) (pins : List (Addr × Obj)) (s : Shared), Inv X pins σ H s → wpAny (model X.prog X.w) X.A (isTrue e X.env whole) (TP X pins σ Q) X.xe s
theorem pw_ww {X : Cx} {e : Expr} : PW X e (WW X e) := ⟨fun wh pins s σ H Q I h => h.run wh pins s I⟩
theorem ww_of {X : Cx} {e : Expr} {t : TT} {σ : L2.St} {H : Hp} {Q : Bool → Hp → Prop} (h : PW X e t) (q : t σ H Q) : WW X e σ H Q := ⟨fun wh pins s I => h.run wh pins s σ H Q I q⟩
structure WA (X : Cx) (es : List Expr) (σ : L2.St) (H : Hp) (Q : List V → Hp → Prop) : Prop where
  run : ∀ (pos : Pos) (pins : List (Addr × Obj)) (s : Shared), Inv X pins σ H s → wpAny (model X.prog X.w) X.A (spliced (backTo pos (starEach es X.env))) (AP X pins σ Q) X.xe s
theorem pa_wa {X : Cx} {es : List Expr} : PA X es (WA X es) := ⟨fun pos pins s σ H Q I h => h.run pos pins s I⟩
theorem wa_of {X : Cx} {es : List Expr} {t : TA} {σ : L2.St} {H : Hp} {Q : List V → Hp → Prop} (h : PA X es t) (q : t σ H Q) : WA X es σ H Q := ⟨fun pos pins s I => h.run pos pins s σ H Q I q⟩
structure WS (X : Cx) (st : Stmt) (D : Ends) (σ : L2.St) (H : Hp) : Prop where
  run : ∀ (pins : List (Addr × Obj)) (s : Shared), Inv X pins σ H s → wpAny (model X.prog X.w) X.A (exec st X.env) (SP X pins D) X.xe s
theorem ps_ws {X : Cx} {st : Stmt} : PS X st (WS X st) := ⟨fun pins s σ H D I h => h.run pins s I⟩
theorem ws_of {X : Cx} {st : Stmt} {t : TS} {σ : L2.St} {H : Hp} {D : Ends} (h : PS X st t) (q : t D σ H) : WS X st D σ H := ⟨fun pins s I => h.run pins s σ H D I q⟩
structure WSs (X : Cx) (st : List Stmt) (D : Ends) (σ : L2.St) (H : Hp) : Prop where
  run : ∀ (pins : List (Addr × Obj)) (s : Shared), Inv X pins σ H s → wpAny (model X.prog X.w) X.A (execs st X.env) (SP X pins D) X.xe s
theorem pss_wss {X : Cx} {st : List Stmt} : PSs X st (WSs X st) := ⟨fun pins s σ H D I h => h.run pins s I⟩
theorem wss_of {X : Cx} {st : List Stmt} {t : TS} {σ : L2.St} {H : Hp} {D : Ends} (h : PSs X st t) (q : t D σ H) : WSs X st D σ H := ⟨fun pins s I => h.run pins s σ H D I q⟩
/-- a two-place operation, a call of a known value, by meaning -/
structure WO (X : Cx) (f : Value → Value → Sem Value) (x y : V) (H : Hp) (Q : VK) : Prop where
  run : ∀ (pins : List (Addr × Obj)) (s : Shared) (σ : L2.St) (v u : Value), Inv X pins σ H s → RelV x v → RelV y u → wpAny (model X.prog X.w) X.A (f v u) (EP X pins σ Q) X.xe s
theorem wo_op {X : Cx} {f : Value → Value → Sem Value} : OpR X f (WO X f) := fun pins s σ H x y v u Q I rx ry h => h.run pins s σ v u I rx ry
theorem wo_of {X : Cx} {f : Value → Value → Sem Value} {r : R2} {x y : V} {H : Hp} {Q : VK} (h : OpR X f r) (q : r x y H Q) : WO X f x y H Q := ⟨fun pins s σ v u I rx ry => h pins s σ H x y v u Q I rx ry q⟩
structure WC (X : Cx) (f : Value) (xs : List V) (H : Hp) (Q : VK) : Prop where
  run : ∀ (pins : List (Addr × Obj)) (s : Shared) (σ : L2.St) (us : List Value), Inv X pins σ H s → Vals xs us → wpAny (model X.prog X.w) X.A (call f us) (EP X pins σ Q) X.xe s
theorem wc_op {X : Cx} {f : Value} : CallR X f (WC X f) := fun pins s σ H xs us Q I rx h => h.run pins s σ us I rx
theorem wc_of {X : Cx} {f : Value} {r : List V → Hp → VK → Prop} {xs : List V} {H : Hp} {Q : VK} (h : CallR X f r) (q : r xs H Q) : WC X f xs H Q := ⟨fun pins s σ us I rx => h pins s σ H xs us Q I rx q⟩
structure WX' (X : Cx) (x y : V) (H : Hp) (Q : VK) : Prop where
  run : ∀ (value slice : Expr) (pins : List (Addr × Obj)) (s : Shared) (σ : L2.St) (v u : Value), Inv X pins σ H s → RelV x v → RelV y u → subscripted slice false v u = operate [v, u] (getItem v u) → wpAny (model X.prog X.w) X.A (PyProof.Rows.subscriptTail value slice v u) (EP X pins σ Q) X.xe s
theorem wx_op {X : Cx} : IxR X (WX' X) := fun value slice pins s σ H x y v u Q I rx ry h hs => h.run value slice pins s σ v u I rx ry hs
theorem wx_of {X : Cx} {r : R2} {x y : V} {H : Hp} {Q : VK} (h : IxR X r) (q : r x y H Q) : WX' X x y H Q := ⟨fun value slice pins s σ v u I rx ry hs => h value slice pins s σ H x y v u Q I rx ry q hs⟩
structure WM (X : Cx) (id : String) (x : V) (xs : List V) (H : Hp) (Q : VK) : Prop where
  run : ∀ (pins : List (Addr × Obj)) (s : Shared) (σ : L2.St) (v : Value) (us : List Value), Inv X pins σ H s → RelV x v → Vals xs us → wpAny (model X.prog X.w) X.A (call (.builtin id) (v :: us)) (EP X pins σ Q) X.xe s
theorem wm_op {X : Cx} {id : String} : MtR X id (WM X id) := fun pins s σ H x xs v us Q I rx rs h => h.run pins s σ v us I rx rs
theorem wm_of {X : Cx} {id : String} {r : V → List V → Hp → VK → Prop} {x : V} {xs : List V} {H : Hp} {Q : VK} (h : MtR X id r) (q : r x xs H Q) : WM X id x xs H Q := ⟨fun pins s σ v us I rx rs => h pins s σ H x xs v us Q I rx rs q⟩

/-- an exception of that class in the air, the slots and the heap so: what the context takes -/
structure WXc (X : Cx) (cls : Value) (d : Option Addr) (σ : L2.St) (H : Hp) : Prop where
  run : ∀ (u : Value) (s' : Shared), XE X (fun c d' σ' H' => c = cls ∧ d' = d ∧ σ' = σ ∧ H' = H) u s' → X.xe u s'
theorem takes_wxc {X : Cx} : Takes X (WXc X) := fun u s' ⟨a, B, sI, pins, σ, H, cls, d, e, I, nb, up, sky, na, os, ag, w⟩ => w.run u s' ⟨a, B, sI, pins, σ, H, cls, d, e, I, nb, up, sky, na, os, ag, rfl, rfl, rfl, rfl⟩
theorem wxc_of {X : Cx} {W : WX} (tk : Takes X W) {cls : Value} {d : Option Addr} {σ : L2.St} {H : Hp} (w : W cls d σ H) : WXc X cls d σ H := ⟨fun u s' ⟨a, B, sI, pins, σ', H', cls', d', e, I, nb, up, sky, na, os, ag, q1, q2, q3, q4⟩ => by
  subst q1; subst q2; subst q3; subst q4
  exact tk u s' ⟨a, B, sI, pins, _, _, _, _, e, I, nb, up, sky, na, os, ag, w⟩⟩
/-! ### the judgements over data -/
abbrev RE (K : Fg) (σ : L2.St) (δ : Od) (R : Hp → Prop) : Hp → Prop := fun G => Env K G σ δ ∧ R G
abbrev RV (K : Fg) (σ : L2.St) (δ : Od) (R : Hp → Prop) (d : D) (v : V) : Hp → Prop := fun G => Env K G σ δ ∧ R G ∧ Rep K G d v
abbrev RVs (K : Fg) (σ : L2.St) (δ : Od) (R : Hp → Prop) (d : List D) (v : List V) : Hp → Prop := fun G => Env K G σ δ ∧ R G ∧ Reps K G d v
abbrev Xs := Value → Mp → Prop
abbrev NX : Xs := fun _ _ => False
def KX (X : Cx) (b : Bs) (δ : Od) (R : Hp → Prop) (σ : L2.St) (Ψ : Xs) : Prop := ∀ cls M' H', Ψ cls M' → SS X.K b M' (RE X.K σ δ R) H' → WXc X cls none σ H'
def EW (X : Cx) (b : Bs) (δ : Od) (M : Mp) (e : Expr) (Φ : Mp → D → Prop) (Ψ : Xs) : Prop :=
  ∀ (R : Hp → Prop), Mono R → ∀ (σ : L2.St) (H : Hp) (Q : VK), SS X.K b M (RE X.K σ δ R) H → (∀ M' d v H', Φ M' d → SS X.K b M' (RV X.K σ δ R d v) H' → Q v H') → KX X b δ R σ Ψ → WE X e σ H Q
def EWs (X : Cx) (b : Bs) (δ : Od) (M : Mp) (es : List Expr) (Φ : Mp → List D → Prop) (Ψ : Xs) : Prop :=
  ∀ (R : Hp → Prop), Mono R → ∀ (σ : L2.St) (H : Hp) (Q : List V → Hp → Prop), SS X.K b M (RE X.K σ δ R) H → (∀ M' d v H', Φ M' d → SS X.K b M' (RVs X.K σ δ R d v) H' → Q v H') → KX X b δ R σ Ψ → WA X es σ H Q
def TW (X : Cx) (b : Bs) (δ : Od) (M : Mp) (e : Expr) (Φ : Mp → Bool → Prop) (Ψ : Xs) : Prop :=
  ∀ (R : Hp → Prop), Mono R → ∀ (σ : L2.St) (H : Hp) (Q : Bool → Hp → Prop), SS X.K b M (RE X.K σ δ R) H → (∀ M' c H', Φ M' c → SS X.K b M' (RE X.K σ δ R) H' → Q c H') → KX X b δ R σ Ψ → WT X e σ H Q
def TWW (X : Cx) (b : Bs) (δ : Od) (M : Mp) (e : Expr) (Φ : Mp → Bool → Prop) (Ψ : Xs) : Prop :=
  ∀ (R : Hp → Prop), Mono R → ∀ (σ : L2.St) (H : Hp) (Q : Bool → Hp → Prop), SS X.K b M (RE X.K σ δ R) H → (∀ M' c H', Φ M' c → SS X.K b M' (RE X.K σ δ R) H' → Q c H') → KX X b δ R σ Ψ → WW X e σ H Q
/-- an operation on data -/
def OW (X : Cx) (b : Bs) (f : Value → Value → Sem Value) (M : Mp) (d1 d2 : D) (Φ : Mp → D → Prop) : Prop :=
  ∀ (R : Hp → Prop), Mono R → ∀ (x y : V) (H : Hp) (Q : VK), SS X.K b M (fun G => R G ∧ Rep X.K G d1 x ∧ Rep X.K G d2 y) H → (∀ M' d v H', Φ M' d → SS X.K b M' (fun G => R G ∧ Rep X.K G d v) H' → Q v H') → WO X f x y H Q
def CW (X : Cx) (b : Bs) (f : Value) (M : Mp) (ds : List D) (Φ : Mp → D → Prop) : Prop :=
  ∀ (R : Hp → Prop), Mono R → ∀ (xs : List V) (H : Hp) (Q : VK), SS X.K b M (fun G => R G ∧ Reps X.K G ds xs) H → (∀ M' d v H', Φ M' d → SS X.K b M' (fun G => R G ∧ Rep X.K G d v) H' → Q v H') → WC X f xs H Q
def XW (X : Cx) (b : Bs) (M : Mp) (d1 d2 : D) (Φ : Mp → D → Prop) : Prop :=
  ∀ (R : Hp → Prop), Mono R → ∀ (x y : V) (H : Hp) (Q : VK), SS X.K b M (fun G => R G ∧ Rep X.K G d1 x ∧ Rep X.K G d2 y) H → (∀ M' d v H', Φ M' d → SS X.K b M' (fun G => R G ∧ Rep X.K G d v) H' → Q v H') → WX' X x y H Q
def MW (X : Cx) (b : Bs) (T id : String) (M : Mp) (d1 : D) (ds : List D) (Φ : Mp → D → Prop) : Prop :=
  ∀ (R : Hp → Prop), Mono R → ∀ (x : V) (xs : List V) (H : Hp) (Q : VK), SS X.K b M (fun G => R G ∧ Rep X.K G d1 x ∧ Reps X.K G ds xs) H → (∀ M' d v H', Φ M' d → SS X.K b M' (fun G => R G ∧ Rep X.K G d v) H' → Q v H') → WM X id x xs H Q
/-- pure: one value, no cell changed -/
abbrev One (M : Mp) (d : D) : Mp → D → Prop := fun M' d' => M = M' ∧ d = d'
abbrev EV (X : Cx) (b : Bs) (δ : Od) (M : Mp) (e : Expr) (d : D) : Prop := EW X b δ M e (One M d) NX
abbrev EVs (X : Cx) (b : Bs) (δ : Od) (M : Mp) (es : List Expr) (ds : List D) : Prop := EWs X b δ M es (fun M' d' => M = M' ∧ ds = d') NX
abbrev TV (X : Cx) (b : Bs) (δ : Od) (M : Mp) (e : Expr) (c : Bool) : Prop := TW X b δ M e (fun M' c' => M = M' ∧ c = c') NX
abbrev TVW (X : Cx) (b : Bs) (δ : Od) (M : Mp) (e : Expr) (c : Bool) : Prop := TWW X b δ M e (fun M' c' => M = M' ∧ c = c') NX
section
variable {X : Cx} {b : Bs} {δ : Od} {M : Mp} {e e1 e2 : Expr} {es : List Expr} {Φ Φ' : Mp → D → Prop} {Ψ : Xs} {d d1 d2 : D} {pos : Pos}
theorem KX.nx {R : Hp → Prop} {σ : L2.St} : KX X b δ R σ NX := fun _ _ _ h => h.elim
theorem KX.up {R R' : Hp → Prop} {σ : L2.St} (k : KX X b δ R σ Ψ) (f : ∀ G, R' G → R G) : KX X b δ R' σ Ψ := fun cls M' H' p S => k cls M' H' p (S.imp fun G z => ⟨z.1, f G z.2⟩)
theorem KX.and {R R' : Hp → Prop} {σ : L2.St} (k : KX X b δ R σ Ψ) : KX X b δ (fun G => R G ∧ R' G) σ Ψ := k.up fun G z => z.1
theorem EW.imp (h : EW X b δ M e Φ Ψ) (f : ∀ M d, Φ M d → Φ' M d) : EW X b δ M e Φ' Ψ := fun R mR σ H Q S k kx => h R mR σ H Q S (fun M' d v H' p => k M' d v H' (f _ _ p)) kx
theorem EWs.imp {Φ Φ' : Mp → List D → Prop} (h : EWs X b δ M es Φ Ψ) (f : ∀ M d, Φ M d → Φ' M d) : EWs X b δ M es Φ' Ψ := fun R mR σ H Q S k kx => h R mR σ H Q S (fun M' d v H' p => k M' d v H' (f _ _ p)) kx
theorem TW.imp {Φ Φ' : Mp → Bool → Prop} (h : TW X b δ M e Φ Ψ) (f : ∀ M d, Φ M d → Φ' M d) : TW X b δ M e Φ' Ψ := fun R mR σ H Q S k kx => h R mR σ H Q S (fun M' d H' p => k M' d H' (f _ _ p)) kx
theorem TWW.imp {Φ Φ' : Mp → Bool → Prop} (h : TWW X b δ M e Φ Ψ) (f : ∀ M d, Φ M d → Φ' M d) : TWW X b δ M e Φ' Ψ := fun R mR σ H Q S k kx => h R mR σ H Q S (fun M' d H' p => k M' d H' (f _ _ p)) kx
theorem EW.to (h : EV X b δ M e d) (q : Φ M d) : EW X b δ M e Φ Ψ := fun R mR σ H Q S k kx => h R mR σ H Q S (fun M' d' v H' p => by obtain ⟨rfl, rfl⟩ := p; exact k _ _ v H' q) .nx
theorem EWs.to {Φ : Mp → List D → Prop} {ds : List D} (h : EVs X b δ M es ds) (q : Φ M ds) : EWs X b δ M es Φ Ψ := fun R mR σ H Q S k kx => h R mR σ H Q S (fun M' d' v H' p => by obtain ⟨rfl, rfl⟩ := p; exact k _ _ v H' q) .nx
theorem TW.to {Φ : Mp → Bool → Prop} {c : Bool} (h : TV X b δ M e c) (q : Φ M c) : TW X b δ M e Φ Ψ := fun R mR σ H Q S k kx => h R mR σ H Q S (fun M' d' H' p => by obtain ⟨rfl, rfl⟩ := p; exact k _ _ H' q) .nx
theorem TWW.to {Φ : Mp → Bool → Prop} {c : Bool} (h : TVW X b δ M e c) (q : Φ M c) : TWW X b δ M e Φ Ψ := fun R mR σ H Q S k kx => h R mR σ H Q S (fun M' d' H' p => by obtain ⟨rfl, rfl⟩ := p; exact k _ _ H' q) .nx
theorem OW.imp {f : Value → Value → Sem Value} (h : OW X b f M d1 d2 Φ) (g : ∀ M d, Φ M d → Φ' M d) : OW X b f M d1 d2 Φ' := fun R mR x y H Q S k => h R mR x y H Q S fun M' d v H' p => k M' d v H' (g _ _ p)
theorem CW.imp {f : Value} {ds : List D} (h : CW X b f M ds Φ) (g : ∀ M d, Φ M d → Φ' M d) : CW X b f M ds Φ' := fun R mR x H Q S k => h R mR x H Q S fun M' d v H' p => k M' d v H' (g _ _ p)
theorem XW.imp (h : XW X b M d1 d2 Φ) (g : ∀ M d, Φ M d → Φ' M d) : XW X b M d1 d2 Φ' := fun R mR x y H Q S k => h R mR x y H Q S fun M' d v H' p => k M' d v H' (g _ _ p)
theorem EV.cast {d' : D} (h : EV X b δ M e d) (q : d = d') : EV X b δ M e d' := q ▸ h
theorem TV.cast {c c' : Bool} (h : TV X b δ M e c) (q : c = c') : TV X b δ M e c' := q ▸ h

/-! ### names and constants -/
theorem ev_flat {v : V} (h : PE X e (tC v)) (r : ∀ G, Rep X.K G d v) : EV X b δ M e d := fun R mR σ H Q S k kx => we_of h (k M d v H ⟨rfl, rfl⟩ (S.imp fun G z => ⟨z.1, z.2, r G⟩))
theorem ev_int {i : Int} {j : Nat} : EV X b δ M (.Constant (.int i) j pos) (.int i) := ev_flat pe_int fun _ => Rep.int_iff.mpr rfl
theorem ev_bl {i : Bool} {j : Nat} : EV X b δ M (.Constant (.bool i) j pos) (.bl i) := ev_flat pe_bl fun _ => Rep.bl_iff.mpr rfl
theorem ev_non {j : Nat} : EV X b δ M (.Constant .none j pos) .non := ev_flat pe_non fun _ => Rep.non_iff.mpr rfl
theorem ev_str {i : Str} {j : Nat} : EV X b δ M (.Constant (.str i) j pos) (.str i) := ev_flat pe_str fun _ => Rep.str_iff.mpr rfl
theorem ev_var (i : Nat) {x : Str} (hd : δ[i]? = some (some d)) (hN : X.N[i]? = some x := by rfl) (hv : Vis X.env.scope x := by first | exact Or.inl rfl | exact Or.inr (Or.inl rfl) | exact Or.inr (Or.inr rfl))
    (hd1 : (x == ("__debug__" : Str)) = false := by decide) (hcd : (x == ("__classdict__" : Str)) = false := by decide) : EV X b δ M (.Name x pos) d := fun R mR σ H Q S k kx => by
  refine we_of (pe_var (i := i) hN hv hd1 hcd) ?_
  obtain ⟨G, S, E, r⟩ := S
  obtain ⟨v, h1, h2⟩ := E.2 i d hd
  exact ⟨v, h1, k M d v H ⟨rfl, rfl⟩ ⟨G, S, E, r, h2⟩⟩
/-- a module's constant -/
theorem ev_glob {x : Str} {v : V} {u : Value} (hg : Gl X x) (hm : X.mg x = some u) (r : RelV v u) (hr : ∀ G, Rep X.K G d v) (hd : (x == ("__debug__" : Str)) = false := by decide) : EV X b δ M (.Name x pos) d := ev_flat (pe_glob hg hm r hd) hr
theorem ev_bltn {x : Str} {v : V} {u : Value} (hg : Gl X x) (hm : X.mg x = none) (hv : bootBuiltins x = some u) (r : RelV v u) (hn : x ≠ "__name__" := by decide) (hd : (x == ("__debug__" : Str)) = false := by decide) : EV X b δ M (.Name x pos) (.loc v) :=
  ev_flat (pe_bltn hg hm hv r hn hd) fun _ => Rep.loc_iff.mpr rfl

/-! ### operations -/
theorem ew_bin {op : Operator} (h : EW X b δ M e1 (fun M1 d1 => EW X b δ M1 e2 (fun M2 d2 => OW X b (binaryOp op) M2 d1 d2 Φ) Ψ) Ψ) : EW X b δ M (.BinOp e1 op e2 pos) Φ Ψ := fun R mR σ H Q S k kx => by
  refine we_of (pe_op (wo_op (f := binaryOp op)) pe_we pe_we) ?_
  refine h R mR σ H _ S (fun M1 d1 x H1 h1 S1 => ?_) kx
  refine h1 (fun G => R G ∧ Rep X.K G d1 x) (mR.and .rep) σ H1 _ S1 (fun M2 d2 y H2 h2 S2 => ?_) kx.and
  exact h2 (RE X.K σ δ R) (Mono.env.and mR) x y H2 Q (S2.imp fun G z => ⟨⟨z.1, z.2.1.1⟩, z.2.1.2, z.2.2⟩) fun M3 d v H3 p S3 => k M3 d v H3 p (S3.imp fun G z => ⟨z.1.1, z.1.2, z.2⟩)
theorem ev_bin {op : Operator} (h1 : EV X b δ M e1 d1) (h2 : EV X b δ M e2 d2) (ho : OW X b (binaryOp op) M d1 d2 (One M d)) : EV X b δ M (.BinOp e1 op e2 pos) d := ew_bin (h1.to (h2.to ho))
theorem ew_cmp {op : CmpOp} (h : EW X b δ M e1 (fun M1 d1 => EW X b δ M1 e2 (fun M2 d2 => OW X b (compareOp op) M2 d1 d2 Φ) Ψ) Ψ) (hm : behindInMarks op e2 = false := by first | exact nomark _ | rfl) : EW X b δ M (.Compare e1 [op] [e2] pos) Φ Ψ := fun R mR σ H Q S k kx => by
  refine we_of (pe_cmpR (wo_op (f := compareOp op)) pe_we pe_we hm) ?_
  refine h R mR σ H _ S (fun M1 d1 x H1 h1 S1 => ?_) kx
  refine h1 (fun G => R G ∧ Rep X.K G d1 x) (mR.and .rep) σ H1 _ S1 (fun M2 d2 y H2 h2 S2 => ?_) kx.and
  exact h2 (RE X.K σ δ R) (Mono.env.and mR) x y H2 Q (S2.imp fun G z => ⟨⟨z.1, z.2.1.1⟩, z.2.1.2, z.2.2⟩) fun M3 d v H3 p S3 => k M3 d v H3 p (S3.imp fun G z => ⟨z.1.1, z.1.2, z.2⟩)
theorem ev_cmp {op : CmpOp} (h1 : EV X b δ M e1 d1) (h2 : EV X b δ M e2 d2) (ho : OW X b (compareOp op) M d1 d2 (One M d)) (hm : behindInMarks op e2 = false := by first | exact nomark _ | rfl) : EV X b δ M (.Compare e1 [op] [e2] pos) d := ew_cmp (h1.to (h2.to ho)) hm
theorem tw_cmp {op : CmpOp} {Φ : Mp → Bool → Prop} (h : EW X b δ M e1 (fun M1 d1 => EW X b δ M1 e2 (fun M2 d2 => OW X b (compareOp op) M2 d1 d2 fun M3 d => ∃ c, d = .bl c ∧ Φ M3 c) Ψ) Ψ) (hm : behindInMarks op e2 = false := by first | exact nomark _ | rfl) : TW X b δ M (.Compare e1 [op] [e2] pos) Φ Ψ := fun R mR σ H Q S k kx => by
  refine wt_of (pt_cmpR (wo_op (f := compareOp op)) pe_we pe_we hm) ?_
  refine h R mR σ H _ S (fun M1 d1 x H1 h1 S1 => ?_) kx
  refine h1 (fun G => R G ∧ Rep X.K G d1 x) (mR.and .rep) σ H1 _ S1 (fun M2 d2 y H2 h2 S2 => ?_) kx.and
  refine h2 (RE X.K σ δ R) (Mono.env.and mR) x y H2 _ (S2.imp fun G z => ⟨⟨z.1, z.2.1.1⟩, z.2.1.2, z.2.2⟩) fun M3 d v H3 p S3 => ?_
  obtain ⟨c, rfl, p⟩ := p
  obtain ⟨G, S3, z1, z2⟩ := S3
  exact ⟨c, Rep.bl_iff.mp z2, k M3 c H3 p ⟨G, S3, z1⟩⟩
theorem tv_cmp {op : CmpOp} {c : Bool} (h1 : EV X b δ M e1 d1) (h2 : EV X b δ M e2 d2) (ho : OW X b (compareOp op) M d1 d2 (One M (.bl c))) (hm : behindInMarks op e2 = false := by first | exact nomark _ | rfl) : TV X b δ M (.Compare e1 [op] [e2] pos) c :=
  tw_cmp (h1.to (h2.to (ho.imp fun M d ⟨q1, q2⟩ => ⟨c, q2.symm, q1, rfl⟩))) hm
/-- a chain of two comparisons of ints -/
theorem ev_chain {op op' : CmpOp} {e3 : Expr} {i j k : Int} {g g' : Int → Int → V} {p p' : Int → Int → Bool} (h1 : EV X b δ M e1 (.int i)) (h2 : EV X b δ M e2 (.int j)) (h3 : EV X b δ M e3 (.int k))
    (ho : OpR X (compareOp op) (rI0 g)) (ho' : OpR X (compareOp op') (rI0 g')) (hg : ∀ i j, g i j = .bl (p i j)) (hg' : ∀ i j, g' i j = .bl (p' i j)) (hm : behindInMarks op e2 = false := by first | exact nomark _ | rfl) (hm' : lastMarks [op, op'] [e2, e3] = false := by rfl) :
    EV X b δ M (.Compare e1 [op, op'] [e2, e3] pos) (.bl (p i j && p' j k)) := fun R mR σ H Q S kk kx => by
  refine we_of (pe_chain ho ho' pe_we pe_we pe_we hm') ?_
  refine h1 R mR σ H _ S (fun M1 d1 x H1 q1 S1 => ?_) .nx
  obtain ⟨rfl, rfl⟩ := q1
  refine h2 (fun G => R G ∧ Rep X.K G (.int i) x) (mR.and .rep) σ H1 _ S1 (fun M2 d2 y H2 q2 S2 => ?_) .nx
  obtain ⟨rfl, rfl⟩ := q2
  obtain ⟨G, S3, z1, z2, z3⟩ := id S2
  refine ⟨i, j, Rep.int_iff.mp z2.2, Rep.int_iff.mp z3, p i j, hg i j, ?_⟩
  cases hp : p i j with
  | false =>
    exact iteF (kk _ _ _ H2 ⟨rfl, by rw [hp] <;> rfl⟩ ⟨G, S3, z1, z2.1, Rep.bl_iff.mpr rfl⟩)
  | true =>
    refine iteT (h3 (fun G => R G ∧ Rep X.K G (.int j) y) (mR.and .rep) σ H2 _ (S2.imp fun G z => ⟨z.1, z.2.1.1, z.2.2⟩) (fun M4 d4 w H4 q4 S4 => ?_) .nx)
    obtain ⟨rfl, rfl⟩ := q4
    obtain ⟨G4, S5, w1, w2, w3⟩ := S4
    refine ⟨j, k, Rep.int_iff.mp w2.2, Rep.int_iff.mp w3, ?_⟩
    rw [hg']
    exact kk _ _ _ H4 ⟨rfl, by rw [hp] <;> rfl⟩ ⟨G4, S5, w1, w2.1, Rep.bl_iff.mpr rfl⟩
theorem ow_of {f : Value → Value → Sem Value} {r : R2} (hr : OpR X f r)
    (h : ∀ (R : Hp → Prop), Mono R → ∀ (x y : V) (H G : Hp) (Q : VK), SO X.K b M G H → R G → Rep X.K G d1 x → Rep X.K G d2 y → (∀ M' d v H', Φ M' d → SS X.K b M' (fun G => R G ∧ Rep X.K G d v) H' → Q v H') → r x y H Q) : OW X b f M d1 d2 Φ := fun R mR x y H Q S k => by
  obtain ⟨G, S, z1, z2, z3⟩ := S
  exact wo_of hr (h R mR x y H G Q S z1 z2 z3 k)
theorem ow_ii {f : Value → Value → Sem Value} {g : Int → Int → V} {i j : Int} (hr : OpR X f (rI0 g)) (hd : ∀ G, Rep X.K G d (g i j)) : OW X b f M (.int i) (.int j) (One M d) :=
  ow_of hr fun R mR x y H G Q S z r1 r2 k => ⟨i, j, Rep.int_iff.mp r1, Rep.int_iff.mp r2, k M d _ H ⟨rfl, rfl⟩ ⟨G, S, z, hd G⟩⟩
theorem ow_iiC {f : Value → Value → Sem Value} {Cn : Int → Int → Prop} {g : Int → Int → V} {i j : Int} (hr : OpR X f (rI Cn g)) (hc : Cn i j) (hd : ∀ G, Rep X.K G d (g i j)) : OW X b f M (.int i) (.int j) (One M d) :=
  ow_of hr fun R mR x y H G Q S z r1 r2 k => ⟨i, j, Rep.int_iff.mp r1, Rep.int_iff.mp r2, hc, k M d _ H ⟨rfl, rfl⟩ ⟨G, S, z, hd G⟩⟩
theorem o_add {i j : Int} : OW X b (binaryOp .Add) M (.int i) (.int j) (One M (.int (i + j))) := ow_ii op_add fun _ => Rep.int_iff.mpr rfl
theorem o_sub {i j : Int} : OW X b (binaryOp .Sub) M (.int i) (.int j) (One M (.int (i - j))) := ow_ii op_sub fun _ => Rep.int_iff.mpr rfl
theorem o_mul {i j : Int} (h : CMul i j) : OW X b (binaryOp .Mult) M (.int i) (.int j) (One M (.int (i * j))) := ow_iiC op_mul h fun _ => Rep.int_iff.mpr rfl
theorem o_div {i j : Int} (h : CDiv i j) : OW X b (binaryOp .FloorDiv) M (.int i) (.int j) (One M (.int (i / j))) := ow_iiC op_fdiv h fun _ => Rep.int_iff.mpr rfl
theorem o_mod {i j : Int} (h : 0 < j) : OW X b (binaryOp .Mod) M (.int i) (.int j) (One M (.int (i % j))) := ow_iiC op_mod h fun _ => Rep.int_iff.mpr rfl
theorem o_pow {i j : Int} (h : CPow i j) : OW X b (binaryOp .Pow) M (.int i) (.int j) (One M (.int (i ^ j.toNat))) := ow_iiC op_pow h fun _ => Rep.int_iff.mpr rfl
theorem o_lt {i j : Int} : OW X b (compareOp .Lt) M (.int i) (.int j) (One M (.bl (decide (i < j)))) := ow_ii op_lt fun _ => Rep.bl_iff.mpr rfl
theorem o_le {i j : Int} : OW X b (compareOp .LtE) M (.int i) (.int j) (One M (.bl (decide (i ≤ j)))) := ow_ii op_le fun _ => Rep.bl_iff.mpr rfl
theorem o_gt {i j : Int} : OW X b (compareOp .Gt) M (.int i) (.int j) (One M (.bl (decide (j < i)))) := ow_ii op_gt fun _ => Rep.bl_iff.mpr rfl
theorem o_ge {i j : Int} : OW X b (compareOp .GtE) M (.int i) (.int j) (One M (.bl (decide (j ≤ i)))) := ow_ii op_ge fun _ => Rep.bl_iff.mpr rfl
theorem ow_scal {x y v : V} {f : Value → Value → Sem Value} {r : R2} (hr : OpR X f r) (h1 : ∀ G v, Rep X.K G d1 v → v = x) (h2 : ∀ G v, Rep X.K G d2 v → v = y) (hq : ∀ (H : Hp) (Q : VK), Q v H → r x y H Q) (hd : ∀ G, Rep X.K G d v) : OW X b f M d1 d2 (One M d) :=
  ow_of hr fun R mR x' y' H G Q S z r1 r2 k => by
    rw [h1 G _ r1, h2 G _ r2]
    exact hq H Q (k M d v H ⟨rfl, rfl⟩ ⟨G, S, z, hd G⟩)
theorem decV_int {i j : Int} : decide (V.int i = V.int j) = decide (i = j) := by rw [dec_int]; exact Bool.beq_eq_decide_eq i j
theorem decV_str {i j : Str} : decide (V.str i = V.str j) = decide (i = j) := by
  by_cases h : i = j
  · subst h; simp
  · rw [decide_eq_false h, decide_eq_false]; intro e; exact h (V.str.inj e)
theorem decV_bl {i j : Bool} : decide (V.bl i = V.bl j) = decide (i = j) := by rw [dec_bl]; exact Bool.beq_eq_decide_eq i j
theorem o_eqI {i j : Int} : OW X b (compareOp .Eq) M (.int i) (.int j) (One M (.bl (decide (i = j)))) :=
  ow_scal op_eq (fun _ _ h => Rep.int_iff.mp h) (fun _ _ h => Rep.int_iff.mp h) (fun H Q q => ⟨rfl, by rw [decV_int]; exact q⟩) fun _ => Rep.bl_iff.mpr rfl
theorem o_neI {i j : Int} : OW X b (compareOp .NotEq) M (.int i) (.int j) (One M (.bl (!decide (i = j)))) :=
  ow_scal op_ne (fun _ _ h => Rep.int_iff.mp h) (fun _ _ h => Rep.int_iff.mp h) (fun H Q q => ⟨rfl, by rw [decV_int]; exact q⟩) fun _ => Rep.bl_iff.mpr rfl
theorem o_eqB {i j : Bool} : OW X b (compareOp .Eq) M (.bl i) (.bl j) (One M (.bl (decide (i = j)))) :=
  ow_scal op_eq (fun _ _ h => Rep.bl_iff.mp h) (fun _ _ h => Rep.bl_iff.mp h) (fun H Q q => ⟨rfl, by rw [decV_bl]; exact q⟩) fun _ => Rep.bl_iff.mpr rfl
theorem o_neB {i j : Bool} : OW X b (compareOp .NotEq) M (.bl i) (.bl j) (One M (.bl (!decide (i = j)))) :=
  ow_scal op_ne (fun _ _ h => Rep.bl_iff.mp h) (fun _ _ h => Rep.bl_iff.mp h) (fun H Q q => ⟨rfl, by rw [decV_bl]; exact q⟩) fun _ => Rep.bl_iff.mpr rfl
theorem o_eqS {i j : Str} : OW X b (compareOp .Eq) M (.str i) (.str j) (One M (.bl (decide (i = j)))) :=
  ow_scal op_eq (fun _ _ h => Rep.str_iff.mp h) (fun _ _ h => Rep.str_iff.mp h) (fun H Q q => ⟨rfl, by rw [decV_str]; exact q⟩) fun _ => Rep.bl_iff.mpr rfl
theorem o_neS {i j : Str} : OW X b (compareOp .NotEq) M (.str i) (.str j) (One M (.bl (!decide (i = j)))) :=
  ow_scal op_ne (fun _ _ h => Rep.str_iff.mp h) (fun _ _ h => Rep.str_iff.mp h) (fun H Q q => ⟨rfl, by rw [decV_str]; exact q⟩) fun _ => Rep.bl_iff.mpr rfl
/-- is None -/
def isNon : D → Bool
  | .non => true
  | .loc .non => true
  | _ => false
theorem rep_isNon {K : Fg} {G : Hp} {d : D} {v : V} (h : Rep K G d v) : decide (v = .non) = isNon d := by
  cases d with
  | non => rw [Rep.non_iff] at h; subst h; rfl
  | bl c => rw [Rep.bl_iff] at h; subst h; rfl
  | int c => rw [Rep.int_iff] at h; subst h; rfl
  | str c => rw [Rep.str_iff] at h; subst h; rfl
  | lst c => rw [Rep.lst_iff] at h; obtain ⟨a, vs, h, _⟩ := h; subst h; rfl
  | tup c => rw [Rep.tup_iff] at h; obtain ⟨a, vs, h, _⟩ := h; subst h; rfl
  | scr c => rw [Rep.scr_iff] at h; obtain ⟨a, h, _⟩ := h; subst h; rfl
  | loc c => rw [Rep.loc_iff] at h; subst h; cases v <;> rfl
theorem o_isN : OW X b (compareOp .Is) M d .non (One M (.bl (isNon d))) :=
  ow_of op_isN fun R mR x y H G Q S z r1 r2 k => ⟨Rep.non_iff.mp r2, by rw [rep_isNon r1]; exact k M _ _ H ⟨rfl, rfl⟩ ⟨G, S, z, Rep.bl_iff.mpr rfl⟩⟩
theorem o_notN : OW X b (compareOp .IsNot) M d .non (One M (.bl (!isNon d))) :=
  ow_of op_notN fun R mR x y H G Q S z r1 r2 k => ⟨Rep.non_iff.mp r2, by rw [rep_isNon r1]; exact k M _ _ H ⟨rfl, rfl⟩ ⟨G, S, z, Rep.bl_iff.mpr rfl⟩⟩

/-! ### displays, arguments -/
theorem ews_nil {Φ : Mp → List D → Prop} (q : Φ M []) : EWs X b δ M [] Φ Ψ := fun R mR σ H Q S k kx => wa_of pa_nil (k M [] [] H q (S.imp fun G z => ⟨z.1, z.2, .nil⟩))
theorem ews_cons {Φ : Mp → List D → Prop} (h : EW X b δ M e (fun M1 d => EWs X b δ M1 es (fun M2 ds => Φ M2 (d :: ds)) Ψ) Ψ) (hs : starEach (e :: es) X.env = (false, eval e X.env) :: starEach es X.env := by exact D4.starEach_c rfl) : EWs X b δ M (e :: es) Φ Ψ := fun R mR σ H Q S k kx => by
  refine wa_of (pa_cons pe_we pa_wa hs) ?_
  refine h R mR σ H _ S (fun M1 d x H1 h1 S1 => ?_) kx
  exact h1 (fun G => R G ∧ Rep X.K G d x) (mR.and .rep) σ H1 _ S1 (fun M2 ds xs H2 p S2 => k M2 _ _ H2 p (S2.imp fun G z => ⟨z.1, z.2.1.1, .cons z.2.1.2 z.2.2⟩)) kx.and
theorem evs_nil : EVs X b δ M [] [] := ews_nil ⟨rfl, rfl⟩
theorem evs_cons {ds : List D} (h : EV X b δ M e d) (t : EVs X b δ M es ds) (hs : starEach (e :: es) X.env = (false, eval e X.env) :: starEach es X.env := by exact D4.starEach_c rfl) : EVs X b δ M (e :: es) (d :: ds) :=
  ews_cons (h.to (t.imp fun M' d' ⟨q1, q2⟩ => ⟨q1, by rw [q2]⟩)) hs
theorem ew_tup {x1 : Nat} (h : EWs X b δ M es (fun M1 ds => ds.length ≤ 1000 ∧ Φ M1 (.tup ds)) Ψ) : EW X b δ M (.Tuple es x1 pos) Φ Ψ := fun R mR σ H Q S k kx => by
  refine we_of (pe_tup pa_wa) ?_
  refine h R mR σ H _ S (fun M1 ds xs H1 p S1 => ?_) kx
  obtain ⟨G, S1, z1, z2, z3⟩ := S1
  refine ⟨by rw [← z3.length]; exact Nat.le_trans p.1 (by decide), fun a ha => ?_⟩
  obtain ⟨S2, sg⟩ := S1.frz ha (.tup xs)
  exact k M1 _ _ _ p.2 ⟨_, S2, Mono.env _ _ sg z1, mR _ _ sg z2, Rep.tup_iff.mpr ⟨a, xs, rfl, upd_same, z3.mono sg⟩⟩
theorem ev_tup {x1 : Nat} {ds : List D} (h : EVs X b δ M es ds) (hl : ds.length ≤ 1000 := by exact Nat.le_of_ble_eq_true rfl) : EV X b δ M (.Tuple es x1 pos) (.tup ds) := ew_tup (h.to ⟨hl, rfl, rfl⟩)
/-- a new list, frozen -/
theorem ew_lst (h : EWs X b δ M es (fun M1 ds => ds.length ≤ 1000 ∧ Φ M1 (.lst ds)) Ψ) : EW X b δ M (.List es pos) Φ Ψ := fun R mR σ H Q S k kx => by
  refine we_of (pe_lst pa_wa) ?_
  refine h R mR σ H _ S (fun M1 ds xs H1 p S1 => ?_) kx
  obtain ⟨G, S1, z1, z2, z3⟩ := S1
  refine ⟨by rw [← z3.length]; exact Nat.le_trans p.1 (by decide), fun a ha => ?_⟩
  obtain ⟨S2, sg⟩ := S1.frz ha (.lst xs)
  exact k M1 _ _ _ p.2 ⟨_, S2, Mono.env _ _ sg z1, mR _ _ sg z2, Rep.lst_iff.mpr ⟨a, xs, rfl, upd_same, z3.mono sg⟩⟩
theorem ev_lst {ds : List D} (h : EVs X b δ M es ds) (hl : ds.length ≤ 1000 := by exact Nat.le_of_ble_eq_true rfl) : EV X b δ M (.List es pos) (.lst ds) := ew_lst (h.to ⟨hl, rfl, rfl⟩)
/-- a new list that may change -/
theorem ew_lstN (h : EWs X b δ M es (fun M1 ds => ds.length ≤ 1000 ∧ ∀ p, M1 p = none → Nw b p → Φ (um M1 p (.lst ds)) (.loc (.ref p))) Ψ) : EW X b δ M (.List es pos) Φ Ψ := fun R mR σ H Q S k kx => by
  refine we_of (pe_lst pa_wa) ?_
  refine h R mR σ H _ S (fun M1 ds xs H1 p S1 => ?_) kx
  obtain ⟨G, S1, z1, z2, z3⟩ := S1
  refine ⟨by rw [← z3.length]; exact Nat.le_trans p.1 (by decide), fun a ha => ?_⟩
  obtain ⟨n1, n2, n3⟩ := S1.new ha
  exact k _ _ _ _ (p.2 a n1 n2) ⟨G, S1.cell (c := .lst ds) ha ⟨xs, rfl, z3⟩, z1, z2, Rep.loc_iff.mpr rfl⟩
theorem ew_dictI (h : ∀ p, M p = none → Nw b p → Φ (um M p (.dI [])) (.loc (.ref p))) : EW X b δ M (.Dict [] [] pos) Φ Ψ := fun R mR σ H Q S k kx => by
  refine we_of pe_dnewK fun a ha => ?_
  obtain ⟨G, S1, z1, z2⟩ := S
  obtain ⟨n1, n2, n3⟩ := S1.new ha
  exact k _ _ _ _ (h a n1 n2) ⟨G, S1.cell (c := .dI []) ha ⟨[], rfl, .nil⟩, z1, z2, Rep.loc_iff.mpr rfl⟩
theorem ew_dictT (h : ∀ p, M p = none → Nw b p → Φ (um M p (.dT [])) (.loc (.ref p))) : EW X b δ M (.Dict [] [] pos) Φ Ψ := fun R mR σ H Q S k kx => by
  refine we_of pe_dnewT fun a ha => ?_
  obtain ⟨G, S1, z1, z2⟩ := S
  obtain ⟨n1, n2, n3⟩ := S1.new ha
  exact k _ _ _ _ (h a n1 n2) ⟨G, S1.cell (c := .dT []) ha ⟨[], rfl, .nil⟩, z1, z2, Rep.loc_iff.mpr rfl⟩

/-! ### subscripts -/
theorem ew_ix (h : EW X b δ M e1 (fun M1 d1 => EW X b δ M1 e2 (fun M2 d2 => XW X b M2 d1 d2 Φ) Ψ) Ψ) (hs : PlainIx e2 := by exact fun _ _ => rfl) : EW X b δ M (.Subscript e1 e2 pos) Φ Ψ := fun R mR σ H Q S k kx => by
  refine we_of (pe_ix (wx_op (X := X)) pe_we pe_we hs) ?_
  refine h R mR σ H _ S (fun M1 d1 x H1 h1 S1 => ?_) kx
  refine h1 (fun G => R G ∧ Rep X.K G d1 x) (mR.and .rep) σ H1 _ S1 (fun M2 d2 y H2 h2 S2 => ?_) kx.and
  exact h2 (RE X.K σ δ R) (Mono.env.and mR) x y H2 Q (S2.imp fun G z => ⟨⟨z.1, z.2.1.1⟩, z.2.1.2, z.2.2⟩) fun M3 d v H3 p S3 => k M3 d v H3 p (S3.imp fun G z => ⟨z.1.1, z.1.2, z.2⟩)
theorem ev_ix (h1 : EV X b δ M e1 d1) (h2 : EV X b δ M e2 d2) (ho : XW X b M d1 d2 (One M d)) (hs : PlainIx e2 := by exact fun _ _ => rfl) : EV X b δ M (.Subscript e1 e2 pos) d := ew_ix (h1.to (h2.to ho)) hs
theorem xw_of {r : R2} (hr : IxR X r)
    (h : ∀ (R : Hp → Prop), Mono R → ∀ (x y : V) (H G : Hp) (Q : VK), SO X.K b M G H → R G → Rep X.K G d1 x → Rep X.K G d2 y → (∀ M' d v H', Φ M' d → SS X.K b M' (fun G => R G ∧ Rep X.K G d v) H' → Q v H') → r x y H Q) : XW X b M d1 d2 Φ := fun R mR x y H Q S k => by
  obtain ⟨G, S, z1, z2, z3⟩ := S
  exact wx_of hr (h R mR x y H G Q S z1 z2 z3 k)
theorem ixN_reps {K : Fg} {G : Hp} {xs : List D} {vs : List V} {i : Int} (r : Reps K G xs vs) (h : atI xs i = some d) : ∃ v, atI vs i = some v ∧ Rep K G d v := by
  unfold atI at h ⊢
  rw [r.length] at h
  cases e : ixN vs.length i with
  | none => rw [e] at h; cases h
  | some j =>
    rw [e] at h
    exact r.get (i := j) h
theorem x_lst {xs : List D} {i : Int} (h : atI xs i = some d) : XW X b M (.lst xs) (.int i) (One M d) :=
  xw_of ix_list fun R mR x y H G Q S z r1 r2 k => by
    obtain ⟨a, vs, e, ha, rs⟩ := Rep.lst_iff.mp r1
    obtain ⟨v, hv, rv⟩ := ixN_reps rs h
    exact ⟨a, vs, i, v, e, Rep.int_iff.mp r2, SqL.of (S.gh _ _ ha), hv, k M d v H ⟨rfl, rfl⟩ ⟨G, S, z, rv⟩⟩
theorem x_tup {xs : List D} {i : Int} (h : atI xs i = some d) : XW X b M (.tup xs) (.int i) (One M d) :=
  xw_of ix_tup fun R mR x y H G Q S z r1 r2 k => by
    obtain ⟨a, vs, e, ha, rs⟩ := Rep.tup_iff.mp r1
    obtain ⟨v, hv, rv⟩ := ixN_reps rs h
    exact ⟨a, vs, i, v, e, Rep.int_iff.mp r2, SqT.of (S.gh _ _ ha), hv, k M d v H ⟨rfl, rfl⟩ ⟨G, S, z, rv⟩⟩
theorem x_scr {ns : List Int} {i n : Int} (h : atI ns i = some n) : XW X b M (.scr ns) (.int i) (One M (.int n)) :=
  xw_of ix_list fun R mR x y H G Q S z r1 r2 k => by
    obtain ⟨a, e, ha⟩ := Rep.scr_iff.mp r1
    refine ⟨a, _, i, .int n, e, Rep.int_iff.mp r2, S.gh.seq ha, ?_, k M _ _ H ⟨rfl, rfl⟩ ⟨G, S, z, Rep.int_iff.mpr rfl⟩⟩
    unfold atI at h ⊢
    rw [List.length_map]
    cases e : ixN ns.length i with
    | none => rw [e] at h; cases h
    | some j =>
      rw [e] at h
      show (ns.map V.int)[j]? = some (.int n)
      rw [List.getElem?_map, show ns[j]? = some n from h]; rfl
/-- a list that is a cell -/
theorem x_cell {a : Addr} {xs : List D} {i : Int} (hm : M a = some (.lst xs)) (h : atI xs i = some d) : XW X b M (.loc (.ref a)) (.int i) (One M d) :=
  xw_of ix_list fun R mR x y H G Q S z r1 r2 k => by
    obtain ⟨_, o, ho, vs, e, rs⟩ := S.cel a _ hm
    subst e
    obtain ⟨v, hv, rv⟩ := ixN_reps rs h
    exact ⟨a, vs, i, v, Rep.loc_iff.mp r1, Rep.int_iff.mp r2, SqL.of ho, hv, k M d v H ⟨rfl, rfl⟩ ⟨G, S, z, rv⟩⟩

/-! ### tests -/
theorem tw_val {Φ : Mp → Bool → Prop} (h : EW X b δ M e (fun M1 d => ∃ c, d = .bl c ∧ Φ M1 c) Ψ) (he : ∀ whole, isTrue e X.env whole = (do let v ← whole; standAt e.pos; holding [v] (truthy v)) := by exact fun _ => rfl) : TW X b δ M e Φ Ψ := fun R mR σ H Q S k kx => by
  refine wt_of (pt_val pe_we he) ?_
  refine h R mR σ H _ S (fun M1 d v H1 p S1 => ?_) kx
  obtain ⟨c, rfl, p⟩ := p
  obtain ⟨G, S1, z1, z2, z3⟩ := S1
  exact ⟨c, Rep.bl_iff.mp z3, k M1 c H1 p ⟨G, S1, z1, z2⟩⟩
theorem tv_val {c : Bool} (h : EV X b δ M e (.bl c)) (he : ∀ whole, isTrue e X.env whole = (do let v ← whole; standAt e.pos; holding [v] (truthy v)) := by exact fun _ => rfl) : TV X b δ M e c := tw_val (h.to ⟨c, rfl, rfl, rfl⟩) he
theorem tw_not {Φ : Mp → Bool → Prop} (h : TW X b δ M e (fun M1 c => Φ M1 (!c)) Ψ) : TW X b δ M (.UnaryOp .Not e pos) Φ Ψ := fun R mR σ H Q S k kx => by
  refine wt_of (pt_not pt_wt) ?_
  exact h R mR σ H _ S (fun M1 c H1 p S1 => k M1 _ H1 p S1) kx
theorem tv_not {c : Bool} (h : TV X b δ M e c) : TV X b δ M (.UnaryOp .Not e pos) (!c) := tw_not (h.to ⟨rfl, rfl⟩)
theorem tw_pw {Φ : Mp → Bool → Prop} (h : TWW X b δ M e Φ Ψ) : TW X b δ M e Φ Ψ := fun R mR σ H Q S k kx => by
  refine wt_of (pw_ww).pt ?_
  exact h R mR σ H _ S k kx
theorem tww_and1 {Φ : Mp → Bool → Prop} (h : TW X b δ M e Φ Ψ) : TWW X b δ M (.BoolOp .And [e] pos) Φ Ψ := fun R mR σ H Q S k kx => ww_of (pw_and1 pt_wt) (h R mR σ H _ S k kx)
theorem tww_or1 {Φ : Mp → Bool → Prop} (h : TW X b δ M e Φ Ψ) : TWW X b δ M (.BoolOp .Or [e] pos) Φ Ψ := fun R mR σ H Q S k kx => ww_of (pw_or1 pt_wt) (h R mR σ H _ S k kx)
theorem tww_and {Φ : Mp → Bool → Prop} (h : TW X b δ M e1 (fun M1 c => (c = true → TWW X b δ M1 (.BoolOp .And (e2 :: es) pos) Φ Ψ) ∧ (c = false → Φ M1 false)) Ψ) : TWW X b δ M (.BoolOp .And (e1 :: e2 :: es) pos) Φ Ψ := fun R mR σ H Q S k kx => by
  refine ww_of (pw_and pt_wt pw_ww) ?_
  refine h R mR σ H _ S (fun M1 c H1 p S1 => ?_) kx
  cases c with
  | true => exact iteT (p.1 rfl R mR σ H1 _ S1 k kx)
  | false => exact iteF (k M1 false H1 (p.2 rfl) S1)
theorem tww_or {Φ : Mp → Bool → Prop} (h : TW X b δ M e1 (fun M1 c => (c = false → TWW X b δ M1 (.BoolOp .Or (e2 :: es) pos) Φ Ψ) ∧ (c = true → Φ M1 true)) Ψ) : TWW X b δ M (.BoolOp .Or (e1 :: e2 :: es) pos) Φ Ψ := fun R mR σ H Q S k kx => by
  refine ww_of (pw_or pt_wt pw_ww) ?_
  refine h R mR σ H _ S (fun M1 c H1 p S1 => ?_) kx
  cases c with
  | true => exact iteT (k M1 true H1 (p.2 rfl) S1)
  | false => exact iteF (p.1 rfl R mR σ H1 _ S1 k kx)
theorem tvw_and1 {c : Bool} (h : TV X b δ M e c) : TVW X b δ M (.BoolOp .And [e] pos) c := tww_and1 h
theorem tvw_or1 {c : Bool} (h : TV X b δ M e c) : TVW X b δ M (.BoolOp .Or [e] pos) c := tww_or1 h
theorem tvw_and {c1 c2 : Bool} (h : TV X b δ M e1 c1) (h2 : c1 = true → TVW X b δ M (.BoolOp .And (e2 :: es) pos) c2) : TVW X b δ M (.BoolOp .And (e1 :: e2 :: es) pos) (c1 && c2) :=
  tww_and (h.to ⟨fun e => by subst e; exact h2 rfl, fun e => by subst e; exact ⟨rfl, rfl⟩⟩)
theorem tvw_or {c1 c2 : Bool} (h : TV X b δ M e1 c1) (h2 : c1 = false → TVW X b δ M (.BoolOp .Or (e2 :: es) pos) c2) : TVW X b δ M (.BoolOp .Or (e1 :: e2 :: es) pos) (c1 || c2) :=
  tww_or (h.to ⟨fun e => by subst e; exact h2 rfl, fun e => by subst e; exact ⟨rfl, rfl⟩⟩)
theorem tv_pw {c : Bool} (h : TVW X b δ M e c) : TV X b δ M e c := tw_pw h
/-- as values -/
theorem ew_one {op : BoolOp} (h : EW X b δ M e Φ Ψ) : EW X b δ M (.BoolOp op [e] pos) Φ Ψ := fun R mR σ H Q S k kx => we_of (pe_one pe_we) (h R mR σ H _ S k kx)
theorem ew_and (h : EW X b δ M e1 (fun M1 d => ∃ c, d = .bl c ∧ (c = true → EW X b δ M1 (.BoolOp .And (e2 :: es) pos) Φ Ψ) ∧ (c = false → Φ M1 (.bl false))) Ψ) : EW X b δ M (.BoolOp .And (e1 :: e2 :: es) pos) Φ Ψ := fun R mR σ H Q S k kx => by
  refine we_of (pe_and pe_we pe_we) ?_
  refine h R mR σ H _ S (fun M1 d v H1 p S1 => ?_) kx
  obtain ⟨c, rfl, p1, p2⟩ := p
  obtain ⟨G, S1, z1, z2, z3⟩ := S1
  refine ⟨c, Rep.bl_iff.mp z3, ?_⟩
  cases c with
  | true => exact iteT (p1 rfl R mR σ H1 _ ⟨G, S1, z1, z2⟩ k kx)
  | false => exact iteF (k M1 _ _ H1 (p2 rfl) ⟨G, S1, z1, z2, Rep.bl_iff.mpr rfl⟩)
theorem ew_or (h : EW X b δ M e1 (fun M1 d => ∃ c, d = .bl c ∧ (c = false → EW X b δ M1 (.BoolOp .Or (e2 :: es) pos) Φ Ψ) ∧ (c = true → Φ M1 (.bl true))) Ψ) : EW X b δ M (.BoolOp .Or (e1 :: e2 :: es) pos) Φ Ψ := fun R mR σ H Q S k kx => by
  refine we_of (pe_or pe_we pe_we) ?_
  refine h R mR σ H _ S (fun M1 d v H1 p S1 => ?_) kx
  obtain ⟨c, rfl, p1, p2⟩ := p
  obtain ⟨G, S1, z1, z2, z3⟩ := S1
  refine ⟨c, Rep.bl_iff.mp z3, ?_⟩
  cases c with
  | true => exact iteT (k M1 _ _ H1 (p2 rfl) ⟨G, S1, z1, z2, Rep.bl_iff.mpr rfl⟩)
  | false => exact iteF (p1 rfl R mR σ H1 _ ⟨G, S1, z1, z2⟩ k kx)
theorem ev_and {c1 : Bool} {c2 : Bool} (h : EV X b δ M e1 (.bl c1)) (h2 : c1 = true → EV X b δ M (.BoolOp .And (e2 :: es) pos) (.bl c2)) : EV X b δ M (.BoolOp .And (e1 :: e2 :: es) pos) (.bl (c1 && c2)) :=
  ew_and (h.to ⟨c1, rfl, fun e => by subst e; exact h2 rfl, fun e => by subst e; exact ⟨rfl, rfl⟩⟩)
theorem ev_or {c1 : Bool} {c2 : Bool} (h : EV X b δ M e1 (.bl c1)) (h2 : c1 = false → EV X b δ M (.BoolOp .Or (e2 :: es) pos) (.bl c2)) : EV X b δ M (.BoolOp .Or (e1 :: e2 :: es) pos) (.bl (c1 || c2)) :=
  ew_or (h.to ⟨c1, rfl, fun e => by subst e; exact h2 rfl, fun e => by subst e; exact ⟨rfl, rfl⟩⟩)
theorem ev_one {op : BoolOp} (h : EV X b δ M e d) : EV X b δ M (.BoolOp op [e] pos) d := ew_one h
theorem ew_not (h : EW X b δ M e (fun M1 d => ∃ c, d = .bl c ∧ Φ M1 (.bl (!c))) Ψ) : EW X b δ M (.UnaryOp .Not e pos) Φ Ψ := fun R mR σ H Q S k kx => by
  refine we_of (pe_not pe_we) ?_
  refine h R mR σ H _ S (fun M1 d v H1 p S1 => ?_) kx
  obtain ⟨c, rfl, p⟩ := p
  obtain ⟨G, S1, z1, z2, z3⟩ := S1
  exact ⟨c, Rep.bl_iff.mp z3, k M1 _ _ H1 p ⟨G, S1, z1, z2, Rep.bl_iff.mpr rfl⟩⟩
theorem ev_not {c : Bool} (h : EV X b δ M e (.bl c)) : EV X b δ M (.UnaryOp .Not e pos) (.bl (!c)) := ew_not (h.to ⟨c, rfl, rfl, rfl⟩)
theorem ew_if {c : Expr} (h : TW X b δ M c (fun M1 k => (k = true → EW X b δ M1 e1 Φ Ψ) ∧ (k = false → EW X b δ M1 e2 Φ Ψ)) Ψ) : EW X b δ M (.IfExp c e1 e2 pos) Φ Ψ := fun R mR σ H Q S k kx => by
  refine we_of (pe_ifExp pt_wt pe_we pe_we) ?_
  refine h R mR σ H _ S (fun M1 c H1 p S1 => ?_) kx
  cases c with
  | true => exact iteT (p.1 rfl R mR σ H1 _ S1 k kx)
  | false => exact iteF (p.2 rfl R mR σ H1 _ S1 k kx)
theorem ev_if {c : Expr} {k : Bool} (h : TV X b δ M c k) (h1 : k = true → EV X b δ M e1 d) (h2 : k = false → EV X b δ M e2 d) : EV X b δ M (.IfExp c e1 e2 pos) d := ew_if (h.to ⟨h1, h2⟩)
end
end D4
end

section
set_option maxRecDepth 100000
set_option maxHeartbeats 4000000
/-! D4c: targets, statements, what is walked, loops. -/
namespace D4
open PySem L2

structure WG (X : Cx) (tg : Expr) (v : V) (σ : L2.St) (H : Hp) (Q : L2.St → Hp → Prop) : Prop where
  run : ∀ (pins : List (Addr × Obj)) (s : Shared) (u : Value), Inv X pins σ H s → RelV v u → wpAny (model X.prog X.w) X.A (assign tg X.env u) (fun _ s' => ∃ σ' H', Inv X pins σ' H' s' ∧ Q σ' H') X.xe s
theorem pg_wg {X : Cx} {tg : Expr} : PG X tg (WG X tg) := ⟨fun pins s σ H v u Q I r h => h.run pins s u I r⟩
theorem wg_of {X : Cx} {tg : Expr} {t : TG} {v : V} {σ : L2.St} {H : Hp} {Q : L2.St → Hp → Prop} (h : PG X tg t) (q : t v σ H Q) : WG X tg v σ H Q := ⟨fun pins s u I r => h.run pins s σ H v u Q I r q⟩
structure WGs (X : Cx) (ts : List Expr) (vs : List V) (σ : L2.St) (H : Hp) (Q : L2.St → Hp → Prop) : Prop where
  run : ∀ (pins : List (Addr × Obj)) (s : Shared) (us : List Value), Inv X pins σ H s → Vals vs us → wpAny (model X.prog X.w) X.A (assignInOrder ((assignEach ts X.env).map (·.2)) us) (fun _ s' => ∃ σ' H', Inv X pins σ' H' s' ∧ Q σ' H') X.xe s
theorem pgs_wgs {X : Cx} {ts : List Expr} : PGs X ts (WGs X ts) := ⟨fun pins s σ H v u Q I r h => h.run pins s u I r⟩
theorem wgs_of {X : Cx} {ts : List Expr} {t : TGs} {v : List V} {σ : L2.St} {H : Hp} {Q : L2.St → Hp → Prop} (h : PGs X ts t) (q : t v σ H Q) : WGs X ts v σ H Q := ⟨fun pins s u I r => h.run pins s σ H v u Q I r q⟩
def GW (X : Cx) (b : Bs) (δ : Od) (M : Mp) (tg : Expr) (d : D) (Φ : Mp → Od → Prop) : Prop :=
  ∀ (R : Hp → Prop), Mono R → ∀ (σ : L2.St) (H : Hp) (v : V) (Q : L2.St → Hp → Prop), SS X.K b M (RV X.K σ δ R d v) H → (∀ M' δ' σ' H', Φ M' δ' → SS X.K b M' (RE X.K σ' δ' R) H' → Q σ' H') → WG X tg v σ H Q
def GWs (X : Cx) (b : Bs) (δ : Od) (M : Mp) (ts : List Expr) (ds : List D) (Φ : Mp → Od → Prop) : Prop :=
  ∀ (R : Hp → Prop), Mono R → ∀ (σ : L2.St) (H : Hp) (vs : List V) (Q : L2.St → Hp → Prop), SS X.K b M (RVs X.K σ δ R ds vs) H → (∀ M' δ' σ' H', Φ M' δ' → SS X.K b M' (RE X.K σ' δ' R) H' → Q σ' H') → WGs X ts vs σ H Q

/-- what is wanted behind a statement -/
structure DE where
  nx : Mp → Od → Prop
  rt : Mp → D → Prop
  bk : Mp → Od → Prop := fun _ _ => False
  ct : Mp → Od → Prop := fun _ _ => False
  xc : Value → Mp → Od → Prop := fun _ _ _ => False
def concN (K : Fg) (b : Bs) (R : Hp → Prop) (Φ : Mp → Od → Prop) : L2.St → Hp → Prop := fun σ H => ∃ M δ, Φ M δ ∧ SS K b M (RE K σ δ R) H
def concR (K : Fg) (b : Bs) (Φ : Mp → D → Prop) : VK := fun v H => ∃ M d, Φ M d ∧ SS K b M (fun G => Rep K G d v) H
def conc (K : Fg) (b : Bs) (R : Hp → Prop) (E : DE) : Ends := ⟨concN K b R E.nx, concR K b E.rt, concN K b R E.bk, concN K b R E.ct⟩
def XcK (X : Cx) (b : Bs) (R : Hp → Prop) (xc : Value → Mp → Od → Prop) : Prop := ∀ cls M' δ' σ' H', xc cls M' δ' → SS X.K b M' (RE X.K σ' δ' R) H' → WXc X cls none σ' H'
def SW (X : Cx) (b : Bs) (δ : Od) (M : Mp) (st : Stmt) (E : DE) : Prop := ∀ (R : Hp → Prop), Mono R → ∀ (σ : L2.St) (H : Hp), SS X.K b M (RE X.K σ δ R) H → XcK X b R E.xc → WS X st (conc X.K b R E) σ H
def SWs (X : Cx) (b : Bs) (δ : Od) (M : Mp) (sts : List Stmt) (E : DE) : Prop := ∀ (R : Hp → Prop), Mono R → ∀ (σ : L2.St) (H : Hp), SS X.K b M (RE X.K σ δ R) H → XcK X b R E.xc → WSs X sts (conc X.K b R E) σ H

section
variable {X : Cx} {b : Bs} {δ : Od} {M : Mp} {e e1 e2 tg : Expr} {es ts : List Expr} {st : Stmt} {sts body orelse : List Stmt} {E E' : DE} {d : D} {pos : Pos} {R : Hp → Prop}
theorem SP.mono {pins : List (Addr × Obj)} {D D' : Ends} {f : Flow} {s : Shared} (h : SP X pins D f s) (h1 : ∀ σ H, D.nx σ H → D'.nx σ H) (h2 : ∀ v H, D.rt v H → D'.rt v H) (h3 : ∀ σ H, D.bk σ H → D'.bk σ H) (h4 : ∀ σ H, D.ct σ H → D'.ct σ H) : SP X pins D' f s := by
  cases f with
  | next => obtain ⟨σ, H, I, q⟩ := h; exact ⟨σ, H, I, h1 σ H q⟩
  | brk => obtain ⟨σ, H, I, q⟩ := h; exact ⟨σ, H, I, h3 σ H q⟩
  | cont => obtain ⟨σ, H, I, q⟩ := h; exact ⟨σ, H, I, h4 σ H q⟩
  | ret u => obtain ⟨v, σ, H, I, r, q⟩ := h; exact ⟨v, σ, H, I, r, h2 v H q⟩
theorem WS.mono {D D' : Ends} {σ : L2.St} {H : Hp} (h : WS X st D σ H) (h1 : ∀ σ H, D.nx σ H → D'.nx σ H) (h2 : ∀ v H, D.rt v H → D'.rt v H) (h3 : ∀ σ H, D.bk σ H → D'.bk σ H) (h4 : ∀ σ H, D.ct σ H → D'.ct σ H) : WS X st D' σ H :=
  ⟨fun pins s I => thn (h.run pins s I) fun f s' q => SP.mono q h1 h2 h3 h4⟩
theorem WSs.mono {D D' : Ends} {σ : L2.St} {H : Hp} (h : WSs X sts D σ H) (h1 : ∀ σ H, D.nx σ H → D'.nx σ H) (h2 : ∀ v H, D.rt v H → D'.rt v H) (h3 : ∀ σ H, D.bk σ H → D'.bk σ H) (h4 : ∀ σ H, D.ct σ H → D'.ct σ H) : WSs X sts D' σ H :=
  ⟨fun pins s I => thn (h.run pins s I) fun f s' q => SP.mono q h1 h2 h3 h4⟩
theorem concN.imp {K : Fg} {Φ Φ' : Mp → Od → Prop} (f : ∀ M δ, Φ M δ → Φ' M δ) {σ : L2.St} {H : Hp} (h : concN K b R Φ σ H) : concN K b R Φ' σ H := let ⟨M, δ, p, S⟩ := h; ⟨M, δ, f _ _ p, S⟩
theorem concN.weak {K : Fg} {R' : Hp → Prop} {Φ : Mp → Od → Prop} (f : ∀ G, R G → R' G) {σ : L2.St} {H : Hp} (h : concN K b R Φ σ H) : concN K b R' Φ σ H := let ⟨M, δ, p, S⟩ := h; ⟨M, δ, p, S.imp fun G z => ⟨z.1, f G z.2⟩⟩
theorem XcK.up {R' : Hp → Prop} {xc : Value → Mp → Od → Prop} (k : XcK X b R xc) (f : ∀ G, R' G → R G) : XcK X b R' xc := fun cls M' δ' σ' H' p S => k cls M' δ' σ' H' p (S.imp fun G z => ⟨z.1, f G z.2⟩)
theorem XcK.kx {xc : Value → Mp → Od → Prop} {σ : L2.St} (k : XcK X b R xc) : KX X b δ R σ (fun cls M' => xc cls M' δ) := fun cls M' H' p S => k cls M' δ σ H' p S
theorem SWs.imp (h : SWs X b δ M sts E) (h1 : ∀ M δ, E.nx M δ → E'.nx M δ) (h2 : ∀ M d, E.rt M d → E'.rt M d) (h3 : ∀ M δ, E.bk M δ → E'.bk M δ) (h4 : ∀ M δ, E.ct M δ → E'.ct M δ) (h5 : ∀ c M δ, E.xc c M δ → E'.xc c M δ) : SWs X b δ M sts E' := fun R mR σ H S kx =>
  (h R mR σ H S fun cls M' δ' σ' H' p => kx cls M' δ' σ' H' (h5 _ _ _ p)).mono (fun _ _ => concN.imp h1) (fun v H ⟨M, d, p, S⟩ => ⟨M, d, h2 _ _ p, S⟩) (fun _ _ => concN.imp h3) (fun _ _ => concN.imp h4)

/-! ### targets -/
theorem gw_name {Φ : Mp → Od → Prop} (i : Nat) {x : Str} (h : Φ M (δ.set i (some d))) (hN : X.N.Nodup) (hi : X.N[i]? = some x := by rfl) (hx : Loc X.env.scope x := by first | exact Or.inl rfl | exact Or.inr rfl)
    (hf : X.fn x = true ∨ X.env.scope.names.lookup x = some .local := by first | exact Or.inl rfl | exact Or.inr rfl) : GW X b δ M (.Name x pos) d Φ := fun R mR σ H v Q S k => by
  refine wg_of (pg_name (i := i) hN hi hx hf) ?_
  exact k M _ _ H h (S.imp fun G z => ⟨z.1.set i z.2.2, z.2.1⟩)
theorem gws_nil {Φ : Mp → Od → Prop} (h : Φ M δ) : GWs X b δ M [] [] Φ := fun R mR σ H vs Q S k => by
  refine wgs_of pgs_nil ?_
  obtain ⟨G, S, z1, z2, z3⟩ := S
  exact ⟨z3.nil_inv, k M δ σ H h ⟨G, S, z1, z2⟩⟩
theorem gws_cons {Φ : Mp → Od → Prop} {ds : List D} (h : GW X b δ M e d fun M1 δ1 => GWs X b δ1 M1 es ds Φ) (hs : (assignEach (e :: es) X.env).map (·.2) = assign e X.env :: (assignEach es X.env).map (·.2) := by rfl) : GWs X b δ M (e :: es) (d :: ds) Φ := fun R mR σ H vs Q S k => by
  refine wgs_of (pgs_cons pg_wg pgs_wgs hs) ?_
  obtain ⟨G, S, z1, z2, z3⟩ := S
  obtain ⟨v, r, e1, r1, r2⟩ := z3.cons_inv
  refine ⟨v, r, e1, ?_⟩
  refine h (fun G => R G ∧ Reps X.K G ds r) (mR.and .reps) σ H v _ ⟨G, S, z1, ⟨z2, r2⟩, r1⟩ fun M1 δ1 σ1 H1 p S1 => ?_
  exact p R mR σ1 H1 r Q (S1.imp fun G z => ⟨z.1, z.2.1, z.2.2⟩) k
theorem gw_tup {Φ : Mp → Od → Prop} {ds : List D} {k : Nat} (hc : X.calm = true) (h : GWs X b δ M ts ds Φ) (hn : (assignEach ts X.env).length = ds.length := by rfl) (hst : (assignEach ts X.env).findIdx? (·.1) = none := by rfl) : GW X b δ M (.Tuple ts k pos) (.tup ds) Φ := fun R mR σ H v Q S kk => by
  refine wg_of (pg_tup (n := ds.length) hc pgs_wgs hn hst) ?_
  obtain ⟨G, S, z1, z2, z3⟩ := S
  obtain ⟨a, vs, e, ha, rs⟩ := Rep.tup_iff.mp z3
  exact ⟨a, vs, e, SqT.of (S.gh _ _ ha), rs.length.symm, h R mR σ H vs Q ⟨G, S, z1, z2, rs⟩ kk⟩
theorem gw_lstT {Φ : Mp → Od → Prop} {ds : List D} {k : Nat} (hc : X.calm = true) (h : GWs X b δ M ts ds Φ) (hn : (assignEach ts X.env).length = ds.length := by rfl) (hst : (assignEach ts X.env).findIdx? (·.1) = none := by rfl) : GW X b δ M (.Tuple ts k pos) (.lst ds) Φ := fun R mR σ H v Q S kk => by
  refine wg_of (pg_lst (n := ds.length) hc pgs_wgs hn hst) ?_
  obtain ⟨G, S, z1, z2, z3⟩ := S
  obtain ⟨a, vs, e, ha, rs⟩ := Rep.lst_iff.mp z3
  exact ⟨a, vs, e, SqL.of (S.gh _ _ ha), rs.length.symm, h R mR σ H vs Q ⟨G, S, z1, z2, rs⟩ kk⟩

/-! ### statements -/
theorem sws_nil (h : E.nx M δ) : SWs X b δ M [] E := fun R mR σ H S kx => wss_of pss_nil ⟨M, δ, h, S⟩
theorem sws_cons (h : SW X b δ M st { E with nx := fun M' δ' => SWs X b δ' M' sts E }) : SWs X b δ M (st :: sts) E := fun R mR σ H S kx => by
  refine wss_of (pss_cons ps_ws pss_wss) ?_
  show WS X st { conc X.K b R E with nx := WSs X sts (conc X.K b R E) } σ H
  exact (h R mR σ H S kx).mono (fun σ' H' ⟨M', δ', p, S'⟩ => p R mR σ' H' S' kx) (fun _ _ q => q) (fun _ _ q => q) (fun _ _ q => q)
theorem sw_expr (h : EW X b δ M e (fun M' _ => E.nx M' δ) (fun c M' => E.xc c M' δ)) (hs : swapsWith e none pos.line X.env = pure false := by rfl) : SW X b δ M (.Expr e pos) E := fun R mR σ H S kx => by
  refine ws_of (ps_expr pe_we hs) ?_
  exact h R mR σ H _ S (fun M' d v H' p S' => ⟨M', δ, p, S'.imp fun G z => ⟨z.1, z.2.1⟩⟩) kx.kx
theorem sw_ret (h : EW X b δ M e E.rt (fun c M' => E.xc c M' δ)) : SW X b δ M (.Return (some e) pos) E := fun R mR σ H S kx => by
  refine ws_of (ps_ret pe_we) ?_
  exact h R mR σ H _ S (fun M' d v H' p S' => ⟨M', d, p, S'.imp fun G z => z.2.2⟩) kx.kx
/-- a new list that may change is handed back for good -/
theorem sw_retL {a : Addr} {xs : List D} (h : EV X b δ M e (.loc (.ref a))) (hm : M a = some (.lst xs)) (hw : Nw b a) (hE : E.rt (dm M a) (.lst xs)) : SW X b δ M (.Return (some e) pos) E := fun R mR σ H S kx => by
  refine ws_of (ps_ret pe_we) ?_
  refine h R mR σ H _ S (fun M' d v H' p S' => ?_) .nx
  obtain ⟨rfl, rfl⟩ := p
  obtain ⟨G, S', z1, z2, z3⟩ := S'
  obtain ⟨G', S2, sg, r⟩ := S'.freeze hm hw
  rw [Rep.loc_iff] at z3
  subst z3
  exact ⟨_, _, hE, G', S2, r⟩
theorem sw_retN (h : E.rt M .non) : SW X b δ M (.Return none pos) E := fun R mR σ H S kx => ws_of ps_retN ⟨M, .non, h, S.imp fun G z => Rep.non_iff.mpr rfl⟩
theorem sw_set (i : Nat) {x : Str} {pos' : Pos} (h : EW X b δ M e (fun M' d => E.nx M' (δ.set i (some d))) (fun c M' => E.xc c M' δ)) (hN : X.N.Nodup) (hi : X.N[i]? = some x := by rfl) (hx : Loc X.env.scope x := by first | exact Or.inl rfl | exact Or.inr rfl)
    (hs : swapsWith e (some (.Name x pos')) pos.line X.env = pure false := by rfl) (hf : X.fn x = true ∨ X.env.scope.names.lookup x = some .local := by first | exact Or.inl rfl | exact Or.inr rfl) : SW X b δ M (.Assign [.Name x pos'] e pos) E := fun R mR σ H S kx => by
  refine ws_of (ps_set (i := i) hN hi hx pe_we hs hf) ?_
  exact h R mR σ H _ S (fun M' d v H' p S' => ⟨M', _, p, S'.imp fun G z => ⟨z.1.set i z.2.2, z.2.1⟩⟩) kx.kx
theorem sw_asg (h : EW X b δ M e (fun M' d => GW X b δ M' tg d E.nx) (fun c M' => E.xc c M' δ)) (hs : swapsWithSole [tg] e pos.line X.env = pure false := by rfl) (hw : swappedStores [tg] e X.env = pure none := by rfl)
    (h1 : (assignEach [tg] X.env).map (·.2) = [assign tg X.env] := by rfl) : SW X b δ M (.Assign [tg] e pos) E := fun R mR σ H S kx => by
  refine ws_of (ps_asg pe_we pg_wg hs hw h1) ?_
  exact h R mR σ H _ S (fun M' d v H' p S' => p R mR σ H' v _ S' fun M'' δ'' σ'' H'' q S'' => ⟨M'', δ'', q, S''⟩) kx.kx
theorem sw_if {c : Expr} (h : TW X b δ M c (fun M' k => (k = true → SWs X b δ M' body E) ∧ (k = false → SWs X b δ M' orelse E)) (fun c M' => E.xc c M' δ)) : SW X b δ M (.If c body orelse pos) E := fun R mR σ H S kx => by
  refine ws_of (ps_if pt_wt pss_wss pss_wss) ?_
  refine h R mR σ H _ S (fun M' k H' p S' => ?_) kx.kx
  cases k with
  | true => exact iteT (p.1 rfl R mR σ H' S' kx)
  | false => exact iteF (p.2 rfl R mR σ H' S' kx)
theorem sw_pass (h : E.nx M δ) : SW X b δ M (.Pass pos) E := fun R mR σ H S kx => ws_of ps_pass ⟨M, δ, h, S⟩
theorem sw_break (h : E.bk M δ) : SW X b δ M (.Break pos) E := fun R mR σ H S kx => ws_of ps_break ⟨M, δ, h, S⟩
theorem sw_cont (h : E.ct M δ) : SW X b δ M (.Continue pos) E := fun R mR σ H S kx => ws_of ps_continue ⟨M, δ, h, S⟩
/-- a locked dict -/
theorem sw_lock {a : Addr} {kvs : List (Int × D)} (hm : M a = some (.dI kvs)) (h : ∀ (b' : Bs) (od : Obj) (ws : List (Key × V)), (∀ p, Wr b' p ↔ Wr b p) → SW X b' δ (um M a (.dZ od kvs ws)) st
      ⟨fun M' δ' => M' a = some (.dZ od kvs ws) ∧ E.nx (um M' a (.dI kvs)) δ', fun M' d => M' a = some (.dZ od kvs ws) ∧ E.rt (um M' a (.dI kvs)) d, fun M' δ' => M' a = some (.dZ od kvs ws) ∧ E.bk (um M' a (.dI kvs)) δ', fun M' δ' => M' a = some (.dZ od kvs ws) ∧ E.ct (um M' a (.dI kvs)) δ', fun _ _ _ => False⟩) : SW X b δ M st E := fun R mR σ H S kx => by
  refine ws_of (ps_lock ps_ws) ?_
  obtain ⟨G, S, z⟩ := S
  obtain ⟨ws, hp, hl⟩ := S.lock hm
  refine ⟨a, .dK ws, hp, trivial, fun od => ?_⟩
  refine (h (lk b G H a od (.dK ws)) od ws (S.wr_lk hp) R mR σ _ ⟨G, hl od, z⟩ (fun _ _ _ _ _ q => q.elim)).mono (fun σ' H' ⟨M', δ', p, G', S', z'⟩ => ?_) (fun v H' ⟨M', d', p, G', S', z'⟩ => ?_) (fun σ' H' ⟨M', δ', p, G', S', z'⟩ => ?_) (fun σ' H' ⟨M', δ', p, G', S', z'⟩ => ?_)
  all_goals (obtain ⟨q1, q2⟩ := S.unlock hp S' p.1; exact ⟨q1, _, _, p.2, G', q2, z'⟩)
theorem sw_while {c : Expr} (hp : PassesOwn (model X.prog X.w) X.A X.env X.xe) (I : Nat → Mp → Od → Prop) (m0 : Nat) (h0 : I m0 M δ)
    (hs : ∀ m M' δ', I m M' δ' → TW X b δ' M' c (fun M1 k => (k = true → SWs X b δ' M1 body { E with nx := fun M2 δ2 => ∃ m', m' < m ∧ I m' M2 δ2, ct := fun M2 δ2 => ∃ m', m' < m ∧ I m' M2 δ2, bk := E.nx }) ∧ (k = false → E.nx M1 δ')) (fun c M' => E.xc c M' δ')) : SW X b δ M (.While c body [] pos) E := fun R mR σ H S kx => by
  refine ws_of (ps_while hp pt_wt pss_wss) ?_
  refine ⟨fun m => concN X.K b R (I m), ⟨m0, M, δ, h0, S⟩, fun m σ' H' ⟨M', δ', p, S'⟩ => ?_⟩
  refine hs m M' δ' p R mR σ' H' _ S' (fun M1 k H1 q S1 => ?_) kx.kx
  cases k with
  | true =>
    refine iteT ⟨concN X.K b R fun M2 δ2 => ∃ m', m' < m ∧ I m' M2 δ2, fun σ2 H2 ⟨M2, δ2, ⟨m', hm, p2⟩, S2⟩ => ⟨m', hm, M2, δ2, p2, S2⟩, ?_⟩
    exact q.1 rfl R mR σ' H1 S1 kx
  | false => exact iteF ⟨M1, δ', q.2 rfl, S1⟩

/-! ### what is walked -/
structure WI (X : Cx) (tg iter : Expr) (σ : L2.St) (H : Hp) (R : It → Hp → Prop) : Prop where
  run : ∀ (pins : List (Addr × Obj)) (s : Shared), Inv X pins σ H s → wpAny (model X.prog X.w) X.A (eval iter X.env) (fun v s1 => wpAny (model X.prog X.w) X.A (pyIter v) (PIE X pins σ tg R) X.xe s1) X.xe s
theorem pi_wi {X : Cx} {tg iter : Expr} : PI X tg iter (WI X tg iter) := ⟨fun pins s σ H R I h => h.run pins s I⟩
theorem wi_of {X : Cx} {tg iter : Expr} {t : TI} {σ : L2.St} {H : Hp} {Q : It → Hp → Prop} (h : PI X tg iter t) (q : t σ H Q) : WI X tg iter σ H Q := ⟨fun pins s I => h.run pins s σ H Q I q⟩
/-- an iterator of the data ds, while the cells are as CM says and R stands -/
def Walks (K : Fg) (b : Bs) (J : It) (CM : Mp → Prop) (R : Hp → Prop) (ds : List D) : Prop :=
  ∃ (Gd : Hp → Prop) (Y : Nat → Hp → V → Hp → Prop), Walk J ds.length Gd Y ∧ (∀ M' H', CM M' → SS K b M' R H' → Gd H') ∧
    ∀ (i : Nat) (d : D) (x : V) (M' : Mp) (R' : Hp → Prop) (H' H'' : Hp), Mono R' → ds[i]? = some d → CM M' → SS K b M' (fun G => R' G ∧ R G) H' → Y i H' x H'' → SS K b M' (fun G => R' G ∧ R G ∧ Rep K G d x) H''
def IW (X : Cx) (b : Bs) (δ : Od) (M : Mp) (tg iter : Expr) (Φ : Mp → (Mp → Prop) → List D → Prop) (Ψ : Xs) : Prop :=
  ∀ (R : Hp → Prop), Mono R → ∀ (σ : L2.St) (H : Hp) (Q : It → Hp → Prop), SS X.K b M (RE X.K σ δ R) H →
    (∀ M1 CM ds H1 J R1, Φ M1 CM ds → Mono R1 → (∀ G, R1 G → R G) → SS X.K b M1 (RE X.K σ δ R1) H1 → Walks X.K b J CM R1 ds → Q J H1) → KX X b δ R σ Ψ → WI X tg iter σ H Q
theorem sw_for {iter : Expr} (hp : PassesOwn (model X.prog X.w) X.A X.env X.xe) (hc : X.calm = true)
    (h : IW X b δ M tg iter (fun M1 CM ds => ∃ I : Nat → Mp → Od → Prop, I 0 M1 δ ∧ (∀ i M' δ', I i M' δ' → CM M') ∧ (∀ i d M' δ', ds[i]? = some d → I i M' δ' → GW X b δ' M' tg d fun M2 δ2 => SWs X b δ2 M2 body { E with nx := I (i + 1), ct := I (i + 1), bk := E.nx }) ∧
      ∀ M' δ', I ds.length M' δ' → E.nx M' δ') (fun c M' => E.xc c M' δ)) (hs : ∀ x, foldedSetIterable iter X.env x = pure x := by exact fun _ => rfl) : SW X b δ M (.For tg iter body [] pos) E := fun R mR σ H S kx => by
  refine ws_of (ps_for hp hc pi_wi pg_wg pss_wss hs) ?_
  refine h R mR σ H _ S (fun M1 CM ds H1 J R1 p mR1 hR S1 w => ?_) kx.kx
  obtain ⟨I, h0, hcm, hst, hd⟩ := p
  obtain ⟨Gd, Y, hw, hG, hY⟩ := w
  refine for_it (D := conc X.K b R E) hw (fun i => concN X.K b R1 (I i)) ⟨M1, δ, h0, S1⟩ (fun i σ' H' _ ⟨M', δ', p, S'⟩ => hG M' H' (hcm i M' δ' p) (S'.imp fun G z => z.2)) (fun i x σ' H' H'' hi ⟨M', δ', p, S'⟩ y => ?_) (fun σ' H' ⟨M', δ', p, S'⟩ => ⟨M', δ', hd M' δ' p, S'.imp fun G z => ⟨z.1, hR G z.2⟩⟩)
  have hi' : ds[i]? = some ds[i] := by simp [hi]
  have S2 := hY i ds[i] x M' (fun G => Env X.K G σ' δ') H' H'' Mono.env hi' (hcm i M' δ' p) S' y
  refine hst i ds[i] M' δ' hi' p R1 mR1 σ' H'' x _ S2 fun M2 δ2 σ2 H2 q S3 => ?_
  refine (q R1 mR1 σ2 H2 S3 (kx.up hR)).mono (fun _ _ z => z) (fun _ _ z => z) (fun _ _ z => ?_) (fun _ _ z => z)
  exact z.weak hR
theorem iw_lst {iter : Expr} {Φ : Mp → (Mp → Prop) → List D → Prop} {Ψ : Xs} (h : EW X b δ M iter (fun M1 d => ∃ ds, d = .lst ds ∧ Φ M1 (fun _ => True) ds) Ψ) : IW X b δ M tg iter Φ Ψ := fun R mR σ H Q S k kx => by
  refine wi_of (pi_list pe_we) ?_
  refine h R mR σ H _ S (fun M1 d v H1 p S1 => ?_) kx
  obtain ⟨ds, rfl, p⟩ := p
  obtain ⟨G, S1, z1, z2, z3⟩ := S1
  obtain ⟨a, vs, e, ha, rs⟩ := Rep.lst_iff.mp z3
  refine ⟨a, e, ⟨vs, SqL.of (S1.gh _ _ ha)⟩, ?_⟩
  refine k M1 _ ds H1 _ (fun G => R G ∧ G a = some (.lst vs) ∧ Reps X.K G ds vs) p (mR.and (Mono.and (fun G G' e h => e _ _ h) .reps)) (fun G z => z.1) ⟨G, S1, z1, z2, ha, rs⟩ ?_
  refine ⟨_, _, by rw [rs.length]; exact walk_list (K := X.K) (a := a) (xs := vs), fun M' H' _ ⟨G, S', z⟩ => SqL.of (S'.gh _ _ z.2.1), fun i d x M' R' H' H'' mR' hi _ ⟨G, S', r', z⟩ y => ?_⟩
  obtain ⟨rfl, hx⟩ := y
  obtain ⟨v, hv, rv⟩ := z.2.2.get hi
  rw [hx] at hv; cases hv
  exact ⟨G, S', r', z, rv⟩
theorem iw_tup {iter : Expr} {Φ : Mp → (Mp → Prop) → List D → Prop} {Ψ : Xs} (h : EW X b δ M iter (fun M1 d => ∃ ds, d = .tup ds ∧ Φ M1 (fun _ => True) ds) Ψ) : IW X b δ M tg iter Φ Ψ := fun R mR σ H Q S k kx => by
  refine wi_of (pi_tup pe_we) ?_
  refine h R mR σ H _ S (fun M1 d v H1 p S1 => ?_) kx
  obtain ⟨ds, rfl, p⟩ := p
  obtain ⟨G, S1, z1, z2, z3⟩ := S1
  obtain ⟨a, vs, e, ha, rs⟩ := Rep.tup_iff.mp z3
  refine ⟨a, e, ⟨vs, SqT.of (S1.gh _ _ ha)⟩, ?_⟩
  refine k M1 _ ds H1 _ (fun G => R G ∧ G a = some (.tup vs) ∧ Reps X.K G ds vs) p (mR.and (Mono.and (fun G G' e h => e _ _ h) .reps)) (fun G z => z.1) ⟨G, S1, z1, z2, ha, rs⟩ ?_
  refine ⟨_, _, by rw [rs.length]; exact walk_tup (K := X.K) (a := a) (xs := vs), fun M' H' _ ⟨G, S', z⟩ => SqT.of (S'.gh _ _ z.2.1), fun i d x M' R' H' H'' mR' hi _ ⟨G, S', r', z⟩ y => ?_⟩
  obtain ⟨rfl, hx⟩ := y
  obtain ⟨v, hv, rv⟩ := z.2.2.get hi
  rw [hx] at hv; cases hv
  exact ⟨G, S', r', z, rv⟩
theorem iw_scr {iter : Expr} {Φ : Mp → (Mp → Prop) → List D → Prop} {Ψ : Xs} {ns : List Int} (h : EV X b δ M iter (.scr ns)) (hΦ : Φ M (fun _ => True) (ns.map D.int)) : IW X b δ M tg iter Φ Ψ := fun R mR σ H Q S k kx => by
  refine wi_of (pi_list pe_we) ?_
  refine h R mR σ H _ S (fun M1 d v H1 p S1 => ?_) .nx
  obtain ⟨rfl, rfl⟩ := p
  obtain ⟨G, S1, z1, z2, z3⟩ := S1
  obtain ⟨a, e, ha⟩ := Rep.scr_iff.mp z3
  refine ⟨a, e, ⟨_, S1.gh.seq ha⟩, ?_⟩
  refine k _ _ _ H1 _ (fun G => R G ∧ SqL X.K G a (ns.map V.int)) hΦ (mR.and (fun G G' e h => e.seq h)) (fun G z => z.1) ⟨G, S1, z1, z2, ha⟩ ?_
  refine ⟨_, _, by rw [List.length_map, ← List.length_map (f := V.int)]; exact walk_list (K := X.K) (a := a) (xs := ns.map V.int), fun M' H' _ ⟨G, S', z⟩ => S'.gh.seq z.2, fun i d x M' R' H' H'' mR' hi _ ⟨G, S', r', z⟩ y => ?_⟩
  obtain ⟨rfl, hx⟩ := y
  rw [List.getElem?_map] at hi hx
  cases q : ns[i]? with
  | none => rw [q] at hi; cases hi
  | some n =>
    rw [q] at hi hx
    cases hi; cases hx
    exact ⟨G, S', r', z, Rep.int_iff.mpr rfl⟩
def rngD (n : Int) : List D := (List.range n.toNat).map fun i => D.int (i : Nat)
theorem iw_range1 {e : Expr} {p1 p2 : Pos} {Φ : Mp → (Mp → Prop) → List D → Prop} {Ψ : Xs} (hg : Gl X "range") (hm : X.mg "range" = none) (h : EW X b δ M e (fun M1 d => ∃ n : Int, d = .int n ∧ -1000000 ≤ n ∧ n ≤ 1000000 ∧ Φ M1 (fun _ => True) (rngD n)) Ψ)
    (hs : starEach [e] X.env = [(false, eval e X.env)] := by exact D4.starEach_1 rfl) (hs1 : starEach [e] X.env = (false, eval e X.env) :: starEach [] X.env := by exact D4.starEach_c rfl) : IW X b δ M tg (.Call (.Name "range" p1) [e] [] p2) Φ Ψ := fun R mR σ H Q S k kx => by
  refine wi_of (pi_range1 hg hm (pa_cons pe_we pa_nil hs1) hs) ?_
  refine h R mR σ H _ S (fun M1 d v H1 p S1 => ?_) kx
  obtain ⟨n, rfl, hm1, hn, p⟩ := p
  obtain ⟨G, S1, z1, z2, z3⟩ := S1
  rw [Rep.int_iff] at z3
  subst z3
  refine ⟨n, rfl, by omega, by omega, ?_⟩
  refine k M1 _ _ H1 _ R p mR (fun G z => z) ⟨G, S1, z1, z2⟩ ?_
  refine ⟨_, _, by unfold rngD; rw [List.length_map, List.length_range]; exact walk_range (lo := 0) (n := n.toNat), fun M' H' _ _ => trivial, fun i d x M' R' H' H'' mR' hi _ ⟨G, S', r', z⟩ y => ?_⟩
  obtain ⟨rfl, rfl⟩ := y
  unfold rngD at hi
  rw [List.getElem?_map] at hi
  cases q : (List.range n.toNat)[i]? with
  | none => rw [q] at hi; cases hi
  | some j =>
    rw [q] at hi
    cases hi
    obtain ⟨_, hj⟩ := List.getElem?_eq_some_iff.mp q
    rw [List.getElem_range] at hj
    subst hj
    exact ⟨G, S', r', z, Rep.int_iff.mpr (by show V.int (0 + (i : Int)) = V.int (i : Int); rw [Int.zero_add])⟩
end
end D4
end

section
set_option maxRecDepth 100000
set_option maxHeartbeats 4000000
/-! D4d: dicts. -/
namespace D4
open PySem L2

section
variable {κ : Type} [DecidableEq κ]
def lookD (kvs : List (κ × D)) (k : κ) : Option D := (kvs.find? fun kv => decide (kv.1 = k)).map (·.2)
def putD (kvs : List (κ × D)) (k : κ) (d : D) : List (κ × D) := if (kvs.any fun kv => decide (kv.1 = k)) = true then kvs.map (fun kv => if kv.1 = k then (kv.1, d) else kv) else kvs ++ [(k, d)]
def dropD (kvs : List (κ × D)) (k : κ) : List (κ × D) := kvs.filter fun kv => decide (kv.1 ≠ k)
variable {κ' : Type} [DecidableEq κ'] {f : κ → κ'} {K : Fg} {G : Hp}
abbrev RepK (K : Fg) (G : Hp) (f : κ → κ') : List (κ × D) → List (κ' × V) → Prop := Paired fun p q => q.1 = f p.1 ∧ Rep K G p.2 q.2
theorem RepK.look (hf : ∀ a b, f a = f b → a = b) {kvs : List (κ × D)} {ws : List (κ' × V)} (r : RepK K G f kvs ws) (k : κ) :
    (∀ d, lookD kvs k = some d → ∃ v, valV ws (f k) = some v ∧ Rep K G d v) ∧ (lookD kvs k = none → valV ws (f k) = none) := by
  induction r with
  | nil => exact ⟨fun d e => by simp [lookD] at e, fun _ => rfl⟩
  | @cons p q l l' h t ih =>
    obtain ⟨h1, h2⟩ := h
    by_cases e : p.1 = k
    · have e' : q.1 = f k := by rw [h1, e]
      rw [valV_pos e']
      have el : lookD (p :: l) k = some p.2 := by simp [lookD, List.find?_cons, e]
      rw [el]
      exact ⟨fun d q => by cases q; exact ⟨_, rfl, h2⟩, fun q => by cases q⟩
    · have e' : ¬ q.1 = f k := fun z => e (hf _ _ (h1.symm.trans z))
      rw [valV_neg e']
      have el : lookD (p :: l) k = lookD l k := by simp [lookD, List.find?_cons, e]
      rw [el]
      exact ih
theorem RepK.isSome (hf : ∀ a b, f a = f b → a = b) {kvs : List (κ × D)} {ws : List (κ' × V)} (r : RepK K G f kvs ws) (k : κ) : (valV ws (f k)).isSome = (lookD kvs k).isSome := by
  cases e : lookD kvs k with
  | none => rw [(r.look hf k).2 e] <;> rfl
  | some d => obtain ⟨v, h, _⟩ := (r.look hf k).1 d e; rw [h] <;> rfl
theorem RepK.any (hf : ∀ a b, f a = f b → a = b) {kvs : List (κ × D)} {ws : List (κ' × V)} (r : RepK K G f kvs ws) (k : κ) : (ws.any fun kv => decide (kv.1 = f k)) = kvs.any fun kv => decide (kv.1 = k) := by
  induction r with
  | nil => rfl
  | @cons p q l l' h t ih =>
    rw [List.any_cons, List.any_cons, ih]
    congr 1
    by_cases e : p.1 = k
    · rw [decide_eq_true e, decide_eq_true (by rw [h.1, e])]
    · rw [decide_eq_false e, decide_eq_false fun z => e (hf _ _ (h.1.symm.trans z))]
theorem RepK.repl (hf : ∀ a b, f a = f b → a = b) {kvs : List (κ × D)} {ws : List (κ' × V)} (r : RepK K G f kvs ws) (k : κ) {d : D} {v : V} (rv : Rep K G d v) : RepK K G f (kvs.map fun kv => if kv.1 = k then (kv.1, d) else kv) (ws.map fun kv => if kv.1 = f k then (kv.1, v) else kv) := by
  induction r with
  | nil => exact .nil
  | @cons p q l l' h t ih =>
    rw [List.map_cons, List.map_cons]
    refine .cons ?_ ih
    by_cases e : p.1 = k
    · rw [if_pos e, if_pos (by rw [h.1, e])]; exact ⟨h.1, rv⟩
    · rw [if_neg e, if_neg fun z => e (hf _ _ (h.1.symm.trans z))]; exact h
theorem RepK.snoc {kvs : List (κ × D)} {ws : List (κ' × V)} (r : RepK K G f kvs ws) (k : κ) {d : D} {v : V} (rv : Rep K G d v) : RepK K G f (kvs ++ [(k, d)]) (ws ++ [(f k, v)]) := by
  induction r with
  | nil => exact .cons ⟨rfl, rv⟩ .nil
  | @cons p q l l' h t ih => exact .cons h ih
theorem RepK.put (hf : ∀ a b, f a = f b → a = b) {kvs : List (κ × D)} {ws : List (κ' × V)} (r : RepK K G f kvs ws) (k : κ) {d : D} {v : V} (rv : Rep K G d v) : RepK K G f (putD kvs k d) (putK ws (f k) v) := by
  unfold putD putK
  rw [r.any hf k]
  split
  · exact RepK.repl hf r k rv
  · exact RepK.snoc r k rv
theorem RepK.drop (hf : ∀ a b, f a = f b → a = b) {kvs : List (κ × D)} {ws : List (κ' × V)} (r : RepK K G f kvs ws) (k : κ) : RepK K G f (dropD kvs k) (dropK ws (f k)) := by
  unfold dropD dropK
  induction r with
  | nil => exact .nil
  | @cons p q l l' h t ih =>
    rw [List.filter_cons, List.filter_cons]
    by_cases e : p.1 = k
    · rw [if_neg (by simp [e]), if_neg (by simp [h.1, e])]; exact ih
    · rw [if_pos (by simp [e]), if_pos (by simp only [ne_eq, decide_eq_true_eq]; exact fun z => e (hf _ _ (h.1.symm.trans z)))]; exact .cons h ih
theorem RepK.length {kvs : List (κ × D)} {ws : List (κ' × V)} (r : RepK K G f kvs ws) : kvs.length = ws.length := by
  induction r with
  | nil => rfl
  | cons h t ih => rw [List.length_cons, List.length_cons, ih]
theorem RepK.get {kvs : List (κ × D)} {ws : List (κ' × V)} (r : RepK K G f kvs ws) : ∀ {i : Nat} {k : κ} {d : D}, kvs[i]? = some (k, d) → ∃ v, ws[i]? = some (f k, v) ∧ Rep K G d v := by
  induction r with
  | nil => intro i k d e; simp at e
  | @cons p q l l' h t ih =>
    intro i k d e
    cases i with
    | zero =>
      have e : p = (k, d) := by simpa using e
      subst e
      obtain ⟨qk, qv⟩ := q
      exact ⟨qv, by simpa using h.1, h.2⟩
    | succ i => simpa using ih (by simpa using e)
theorem RepK.keys {kvs : List (κ × D)} {ws : List (κ' × V)} (r : RepK K G f kvs ws) : ws.map (·.1) = (kvs.map (·.1)).map f := by
  induction r with
  | nil => rfl
  | cons h t ih => rw [List.map_cons, List.map_cons, List.map_cons, ih, h.1]
theorem RepK.vals {kvs : List (κ × D)} {ws : List (κ' × V)} (r : RepK K G f kvs ws) : Reps K G (kvs.map (·.2)) (ws.map (·.2)) := by
  induction r with
  | nil => exact .nil
  | cons h t ih => exact .cons h.2 ih
end
theorem keyI_inj : ∀ a b : Int, keyI a = keyI b → a = b := fun a b e => Sum.inl.inj e
theorem keyT_inj : ∀ a b : List Int, keyT a = keyT b → a = b
  | [], [], _ => rfl
  | [], _ :: _, e => by cases e
  | _ :: _, [], e => by cases e
  | a :: l, b :: m, e => by
    have e1 := List.cons.inj (show keyI a :: keyT l = keyI b :: keyT m from e)
    rw [keyI_inj _ _ e1.1, keyT_inj _ _ e1.2]
theorem keyT_vals (ks : List Int) : (keyT ks).map kV = ks.map V.int := by
  unfold keyT
  rw [List.map_map]
  rfl

/-- at a stands a dict with these entries -/
def DkI (M : Mp) (a : Addr) (kvs : List (Int × D)) : Prop := M a = some (.dI kvs) ∨ ∃ od ws, M a = some (.dZ od kvs ws)
/-- what a key is -/
inductive IsKey (M : Mp) (a : Addr) : D → Option D → Prop
  | i {kvs : List (Int × D)} {i : Int} : DkI M a kvs → IsKey M a (.int i) (lookD kvs i)
  | t {kts : List (List Int × D)} {ks : List Int} : M a = some (.dT kts) → IsKey M a (.tup (ks.map D.int)) (lookD kts ks)
  | tz {od : Obj} {ws : List (List Key × V)} {kts : List (List Int × D)} {ks : List Int} : M a = some (.dTZ od kts ws) → IsKey M a (.tup (ks.map D.int)) (lookD kts ks)
section
variable {X : Cx} {b : Bs} {δ : Od} {M : Mp} {e o k e1 e2 tg : Expr} {es : List Expr} {Φ : Mp → D → Prop} {Ψ : Xs} {d d1 d2 : D} {pos apos cpos : Pos} {a : Addr} {kvs : List (Int × D)} {kts : List (List Int × D)} {i : Int} {ks : List Int} {E : DE} {K : Fg} {G H : Hp}
theorem SO.dk (S : SO K b M G H) (h : DkI M a kvs) : ∃ ws, Rd H a (.dK ws) ∧ RepK K G keyI kvs ws := by
  rcases h with h | ⟨od, ws, h⟩
  · obtain ⟨_, o, ho, ws, rfl, r⟩ := S.cel a _ h
    exact ⟨ws, .inl ho, r⟩
  · obtain ⟨_, o, ho, rfl, r⟩ := S.cel a _ h
    exact ⟨ws, .inr ⟨od, ho⟩, r⟩
theorem SO.dt (S : SO K b M G H) (h : M a = some (.dT kts)) : ∃ ws, H a = some (.dT ws) ∧ RepK K G keyT kts ws := by
  obtain ⟨_, o, ho, ws, rfl, r⟩ := S.cel a _ h
  exact ⟨ws, ho, r⟩
theorem SO.dtz {od : Obj} {ws : List (List Key × V)} (S : SO K b M G H) (h : M a = some (.dTZ od kts ws)) : H a = some (.frz od (.dT ws)) ∧ RepK K G keyT kts ws := by
  obtain ⟨_, o, ho, rfl, r⟩ := S.cel a _ h
  exact ⟨ho, r⟩
theorem IsKey.get {od : Option D} {y : V} (h : IsKey M a d1 od) (S : SO K b M G H) (r : Rep K G d1 y) : (∀ d, od = some d → ∃ v, DGet H a y (some v) ∧ Rep K G d v) ∧ (od = none → DGet H a y none) := by
  cases h with
  | @i kvs i h =>
    obtain ⟨ws, h1, h2⟩ := S.dk h
    rw [Rep.int_iff] at r
    subst r
    refine ⟨fun d e => ?_, fun e => ?_⟩
    · obtain ⟨v, q1, q2⟩ := (h2.look keyI_inj i).1 d e
      exact ⟨v, .inl ⟨ws, keyI i, h1, rfl, q1.symm⟩, q2⟩
    · exact .inl ⟨ws, keyI i, h1, rfl, ((h2.look keyI_inj i).2 e).symm⟩
  | @t kts ks h =>
    obtain ⟨ws, h1, h2⟩ := S.dt h
    obtain ⟨q, vs, rfl, hq, rs⟩ := Rep.tup_iff.mp r
    have ev := rs.ints
    subst ev
    have hq' : H q = some (.tup ((keyT ks).map kV)) := by rw [keyT_vals]; exact S.gh _ _ hq
    refine ⟨fun d e => ?_, fun e => ?_⟩
    · obtain ⟨v, q1, q2⟩ := (h2.look keyT_inj ks).1 d e
      exact ⟨v, .inr ⟨ws, keyT ks, q, .inl h1, rfl, hq', q1.symm⟩, q2⟩
    · exact .inr ⟨ws, keyT ks, q, .inl h1, rfl, hq', ((h2.look keyT_inj ks).2 e).symm⟩
  | @tz oz ws kts ks h =>
    obtain ⟨h1, h2⟩ := S.dtz h
    obtain ⟨q, vs, rfl, hq, rs⟩ := Rep.tup_iff.mp r
    have ev := rs.ints
    subst ev
    have hq' : H q = some (.tup ((keyT ks).map kV)) := by rw [keyT_vals]; exact S.gh _ _ hq
    refine ⟨fun d e => ?_, fun e => ?_⟩
    · obtain ⟨v, q1, q2⟩ := (h2.look keyT_inj ks).1 d e
      exact ⟨v, .inr ⟨ws, keyT ks, q, .inr ⟨_, h1⟩, rfl, hq', q1.symm⟩, q2⟩
    · exact .inr ⟨ws, keyT ks, q, .inr ⟨_, h1⟩, rfl, hq', ((h2.look keyT_inj ks).2 e).symm⟩
theorem IsKey.isD {od : Option D} (h : IsKey M a d1 od) (S : SO K b M G H) : IsD H a := by
  cases h with
  | i h => obtain ⟨ws, h1, h2⟩ := S.dk h; exact .inl ⟨ws, h1⟩
  | t h => obtain ⟨ws, h1, h2⟩ := S.dt h; exact .inr ⟨ws, .inl h1⟩
  | tz h => obtain ⟨h1, h2⟩ := S.dtz h; exact .inr ⟨_, .inr ⟨_, h1⟩⟩
theorem ev_dget (hu : X.A.units + 1 < cLine) (h1 : EV X b δ M o (.loc (.ref a))) (h2 : EV X b δ M k d1) (hk : IsKey M a d1 (some d)) (hs : NoSl k := by exact fun _ _ => rfl) : EV X b δ M (.Subscript o k pos) d := fun R mR σ H Q S kk kx => by
  refine we_of (pe_dget hu pe_we pe_we hs) ?_
  refine h1 R mR σ H _ S (fun M1 d' x H1 p1 S1 => ?_) .nx
  obtain ⟨rfl, rfl⟩ := p1
  refine h2 (fun G => R G ∧ x = .ref a) (mR.and fun _ _ _ h => h) σ H1 _ (S1.imp fun G z => ⟨z.1, z.2.1, Rep.loc_iff.mp z.2.2⟩) (fun M2 d' y H2 p2 S2 => ?_) .nx
  obtain ⟨rfl, rfl⟩ := p2
  obtain ⟨G, S2, z1, z2, z3⟩ := S2
  obtain ⟨v, g, rv⟩ := (hk.get S2 z3).1 d rfl
  exact ⟨a, v, z2.2, g, kk _ _ _ _ ⟨rfl, rfl⟩ ⟨G, S2, z1, z2.1, rv⟩⟩
theorem ev_din (hu : X.A.units + 1 < cLine) {od : Option D} (h2 : EV X b δ M k d1) (h1 : EV X b δ M o (.loc (.ref a))) (hk : IsKey M a d1 od) (hm : behindInMarks .In o = false := by rfl) : EV X b δ M (.Compare k [.In] [o] pos) (.bl od.isSome) := fun R mR σ H Q S kk kx => by
  refine we_of (pe_cmp (pc_din hu pe_we pe_we) hm) ?_
  refine h2 R mR σ H _ S (fun M1 d' y H1 p1 S1 => ?_) .nx
  obtain ⟨rfl, rfl⟩ := p1
  refine h1 (fun G => R G ∧ Rep X.K G d1 y) (mR.and .rep) σ H1 _ (S1.imp fun G z => ⟨z.1, z.2.1, z.2.2⟩) (fun M2 d' x H2 p2 S2 => ?_) .nx
  obtain ⟨rfl, rfl⟩ := p2
  obtain ⟨G, S2, z1, z2, z3⟩ := S2
  have fin : ∀ c, SS X.K b M (RV X.K σ δ R (.bl c) (.bl c)) H2 := fun c => ⟨G, S2, z1, z2.1, Rep.bl_iff.mpr rfl⟩
  cases od with
  | none => exact ⟨a, none, Rep.loc_iff.mp z3, (hk.get S2 z2.2).2 rfl, kk _ _ _ _ ⟨rfl, rfl⟩ (fin _)⟩
  | some d =>
    obtain ⟨v, g, rv⟩ := (hk.get S2 z2.2).1 d rfl
    exact ⟨a, some v, Rep.loc_iff.mp z3, g, kk _ _ _ _ ⟨rfl, rfl⟩ (fin _)⟩
theorem ev_dnotin (hu : X.A.units + 1 < cLine) {od : Option D} (h2 : EV X b δ M k d1) (h1 : EV X b δ M o (.loc (.ref a))) (hk : IsKey M a d1 od) (hm : behindInMarks .NotIn o = false := by rfl) : EV X b δ M (.Compare k [.NotIn] [o] pos) (.bl (!od.isSome)) := fun R mR σ H Q S kk kx => by
  refine we_of (pe_cmp (pc_dnotin hu pe_we pe_we) hm) ?_
  refine h2 R mR σ H _ S (fun M1 d' y H1 p1 S1 => ?_) .nx
  obtain ⟨rfl, rfl⟩ := p1
  refine h1 (fun G => R G ∧ Rep X.K G d1 y) (mR.and .rep) σ H1 _ (S1.imp fun G z => ⟨z.1, z.2.1, z.2.2⟩) (fun M2 d' x H2 p2 S2 => ?_) .nx
  obtain ⟨rfl, rfl⟩ := p2
  obtain ⟨G, S2, z1, z2, z3⟩ := S2
  have fin : ∀ c, SS X.K b M (RV X.K σ δ R (.bl c) (.bl c)) H2 := fun c => ⟨G, S2, z1, z2.1, Rep.bl_iff.mpr rfl⟩
  cases od with
  | none => exact ⟨a, none, Rep.loc_iff.mp z3, (hk.get S2 z2.2).2 rfl, kk _ _ _ _ ⟨rfl, rfl⟩ (fin _)⟩
  | some d =>
    obtain ⟨v, g, rv⟩ := (hk.get S2 z2.2).1 d rfl
    exact ⟨a, some v, Rep.loc_iff.mp z3, g, kk _ _ _ _ ⟨rfl, rfl⟩ (fin _)⟩
theorem tv_din (hu : X.A.units + 1 < cLine) {od : Option D} (h2 : EV X b δ M k d1) (h1 : EV X b δ M o (.loc (.ref a))) (hk : IsKey M a d1 od) (hm : behindInMarks .In o = false := by rfl) : TV X b δ M (.Compare k [.In] [o] pos) od.isSome := fun R mR σ H Q S kk kx => by
  refine wt_of (pt_cmp (pc_din hu pe_we pe_we) hm) ?_
  refine h2 R mR σ H _ S (fun M1 d' y H1 p1 S1 => ?_) .nx
  obtain ⟨rfl, rfl⟩ := p1
  refine h1 (fun G => R G ∧ Rep X.K G d1 y) (mR.and .rep) σ H1 _ (S1.imp fun G z => ⟨z.1, z.2.1, z.2.2⟩) (fun M2 d' x H2 p2 S2 => ?_) .nx
  obtain ⟨rfl, rfl⟩ := p2
  obtain ⟨G, S2, z1, z2, z3⟩ := S2
  have fin : SS X.K b M (RE X.K σ δ R) H2 := ⟨G, S2, z1, z2.1⟩
  cases od with
  | none => exact ⟨a, none, Rep.loc_iff.mp z3, (hk.get S2 z2.2).2 rfl, _, rfl, kk _ _ _ ⟨rfl, rfl⟩ fin⟩
  | some d =>
    obtain ⟨v, g, rv⟩ := (hk.get S2 z2.2).1 d rfl
    exact ⟨a, some v, Rep.loc_iff.mp z3, g, _, rfl, kk _ _ _ ⟨rfl, rfl⟩ fin⟩
theorem tv_dnotin (hu : X.A.units + 1 < cLine) {od : Option D} (h2 : EV X b δ M k d1) (h1 : EV X b δ M o (.loc (.ref a))) (hk : IsKey M a d1 od) (hm : behindInMarks .NotIn o = false := by rfl) : TV X b δ M (.Compare k [.NotIn] [o] pos) (!od.isSome) := fun R mR σ H Q S kk kx => by
  refine wt_of (pt_cmp (pc_dnotin hu pe_we pe_we) hm) ?_
  refine h2 R mR σ H _ S (fun M1 d' y H1 p1 S1 => ?_) .nx
  obtain ⟨rfl, rfl⟩ := p1
  refine h1 (fun G => R G ∧ Rep X.K G d1 y) (mR.and .rep) σ H1 _ (S1.imp fun G z => ⟨z.1, z.2.1, z.2.2⟩) (fun M2 d' x H2 p2 S2 => ?_) .nx
  obtain ⟨rfl, rfl⟩ := p2
  obtain ⟨G, S2, z1, z2, z3⟩ := S2
  have fin : SS X.K b M (RE X.K σ δ R) H2 := ⟨G, S2, z1, z2.1⟩
  cases od with
  | none => exact ⟨a, none, Rep.loc_iff.mp z3, (hk.get S2 z2.2).2 rfl, _, rfl, kk _ _ _ ⟨rfl, rfl⟩ fin⟩
  | some d =>
    obtain ⟨v, g, rv⟩ := (hk.get S2 z2.2).1 d rfl
    exact ⟨a, some v, Rep.loc_iff.mp z3, g, _, rfl, kk _ _ _ ⟨rfl, rfl⟩ fin⟩
theorem ev_dget1 (hu : X.A.units + 1 < cLine) {od : Option D} (h1 : EV X b δ M o (.loc (.ref a))) (h2 : EV X b δ M k d1) (hk : IsKey M a d1 od) (m : M1 X o "get" apos k cpos := by exact ⟨rfl, rfl, rfl, rfl⟩) : EV X b δ M (.Call (.Attribute o "get" apos) [k] [] cpos) (od.getD .non) := fun R mR σ H Q S kk kx => by
  refine we_of (pe_dget1 hu pe_we pe_we m) ?_
  refine h1 R mR σ H _ S (fun M1 d' x H1 p1 S1 => ?_) .nx
  obtain ⟨rfl, rfl⟩ := p1
  obtain ⟨G1, S1', z1⟩ := id S1
  refine ⟨a, Rep.loc_iff.mp z1.2.2, hk.isD S1', ?_⟩
  refine h2 R mR σ H1 _ (S1.imp fun G z => ⟨z.1, z.2.1⟩) (fun M2 d' y H2 p2 S2 => ?_) .nx
  obtain ⟨rfl, rfl⟩ := p2
  obtain ⟨G, S2, z1, z2, z3⟩ := S2
  cases od with
  | none => exact ⟨none, (hk.get S2 z3).2 rfl, kk _ _ _ _ ⟨rfl, rfl⟩ ⟨G, S2, z1, z2, Rep.non_iff.mpr rfl⟩⟩
  | some d =>
    obtain ⟨v, g, rv⟩ := (hk.get S2 z3).1 d rfl
    exact ⟨some v, g, kk _ _ _ _ ⟨rfl, rfl⟩ ⟨G, S2, z1, z2, rv⟩⟩
theorem ev_dget2 (hu : X.A.units + 1 < cLine) {od : Option D} (h1 : EV X b δ M o (.loc (.ref a))) (h2 : EV X b δ M k d1) (h3 : EV X b δ M e d2) (hk : IsKey M a d1 od) (m : M2 X o "get" apos k e cpos := by exact ⟨rfl, rfl, rfl, rfl⟩) : EV X b δ M (.Call (.Attribute o "get" apos) [k, e] [] cpos) (od.getD d2) := fun R mR σ H Q S kk kx => by
  refine we_of (pe_dget2 hu pe_we pe_we pe_we m) ?_
  refine h1 R mR σ H _ S (fun M1 d' x H1 p1 S1 => ?_) .nx
  obtain ⟨rfl, rfl⟩ := p1
  obtain ⟨G1, S1', z1⟩ := id S1
  refine ⟨a, Rep.loc_iff.mp z1.2.2, hk.isD S1', ?_⟩
  refine h2 R mR σ H1 _ (S1.imp fun G z => ⟨z.1, z.2.1⟩) (fun M2 d' y H2 p2 S2 => ?_) .nx
  obtain ⟨rfl, rfl⟩ := p2
  refine h3 (fun G => R G ∧ Rep X.K G d1 y) (mR.and .rep) σ H2 _ (S2.imp fun G z => ⟨z.1, z.2⟩) (fun M3 d' z H3 p3 S3 => ?_) .nx
  obtain ⟨rfl, rfl⟩ := p3
  obtain ⟨G, S3, z1, z2, z3⟩ := S3
  cases od with
  | none => exact ⟨none, (hk.get S3 z2.2).2 rfl, kk _ _ _ _ ⟨rfl, rfl⟩ ⟨G, S3, z1, z2.1, z3⟩⟩
  | some d =>
    obtain ⟨v, g, rv⟩ := (hk.get S3 z2.2).1 d rfl
    exact ⟨some v, g, kk _ _ _ _ ⟨rfl, rfl⟩ ⟨G, S3, z1, z2.1, rv⟩⟩
/-- o[k] = e, ints for keys -/
theorem sw_dput (hu : X.A.units + 1 < cLine) (h1 : EV X b δ M e d) (h2 : EV X b δ M o (.loc (.ref a))) (h3 : EV X b δ M k (.int i)) (hm : M a = some (.dI kvs)) (hw : Wr b a) (hl : kvs.length < 100000) (hE : E.nx (um M a (.dI (putD kvs i d))) δ)
    (hs : swapsWith e (some (.Subscript o k apos)) pos.line X.env = pure false := by rfl) : SW X b δ M (.Assign [.Subscript o k apos] e pos) E := fun R mR σ H S kx => by
  refine ws_of (ps_dput hu pe_we pe_we pe_we hs) ?_
  refine h1 R mR σ H _ S (fun M1 d' v H1 p1 S1 => ?_) .nx
  obtain ⟨rfl, rfl⟩ := p1
  refine h2 (fun G => R G ∧ Rep X.K G d v) (mR.and .rep) σ H1 _ S1 (fun M2 d' x H2 p2 S2 => ?_) .nx
  obtain ⟨rfl, rfl⟩ := p2
  refine h3 (fun G => (R G ∧ Rep X.K G d v) ∧ x = .ref a) ((mR.and .rep).and fun _ _ _ h => h) σ H2 _ (S2.imp fun G z => ⟨z.1, z.2.1, Rep.loc_iff.mp z.2.2⟩) (fun M3 d' y H3 p3 S3 => ?_) .nx
  obtain ⟨rfl, rfl⟩ := p3
  obtain ⟨G, S3, z1, z2, z3⟩ := S3
  obtain ⟨_, ob, ho, ws, eo, rw'⟩ := S3.cel a _ hm
  subst eo
  rw [Rep.int_iff] at z3
  subst z3
  refine ⟨a, _, z2.2, DPut.k (k := keyI i) ho (by rw [← RepK.length (f := keyI) rw']; exact Nat.lt_of_lt_of_le hl (by decide)), _, δ, hE, G, S3.set hm hw ⟨_, rfl, RepK.put keyI_inj rw' i z2.1.2⟩, z1, z2.1.1⟩
theorem sw_dputT (hu : X.A.units + 1 < cLine) (h1 : EV X b δ M e d) (h2 : EV X b δ M o (.loc (.ref a))) (h3 : EV X b δ M k (.tup (ks.map D.int))) (hm : M a = some (.dT kts)) (hw : Wr b a) (hl : kts.length < 100000) (hE : E.nx (um M a (.dT (putD kts ks d))) δ)
    (hs : swapsWith e (some (.Subscript o k apos)) pos.line X.env = pure false := by rfl) : SW X b δ M (.Assign [.Subscript o k apos] e pos) E := fun R mR σ H S kx => by
  refine ws_of (ps_dput hu pe_we pe_we pe_we hs) ?_
  refine h1 R mR σ H _ S (fun M1 d' v H1 p1 S1 => ?_) .nx
  obtain ⟨rfl, rfl⟩ := p1
  refine h2 (fun G => R G ∧ Rep X.K G d v) (mR.and .rep) σ H1 _ S1 (fun M2 d' x H2 p2 S2 => ?_) .nx
  obtain ⟨rfl, rfl⟩ := p2
  refine h3 (fun G => (R G ∧ Rep X.K G d v) ∧ x = .ref a) ((mR.and .rep).and fun _ _ _ h => h) σ H2 _ (S2.imp fun G z => ⟨z.1, z.2.1, Rep.loc_iff.mp z.2.2⟩) (fun M3 d' y H3 p3 S3 => ?_) .nx
  obtain ⟨rfl, rfl⟩ := p3
  obtain ⟨G, S3, z1, z2, z3⟩ := S3
  obtain ⟨_, ob, ho, ws, eo, rw'⟩ := S3.cel a _ hm
  subst eo
  obtain ⟨q, vs, rfl, hq, rs⟩ := Rep.tup_iff.mp z3
  have ev := rs.ints
  subst ev
  have hq' : H3 q = some (.tup ((keyT ks).map kV)) := by rw [keyT_vals]; exact S3.gh _ _ hq
  refine ⟨a, _, z2.2, DPut.t (k := keyT ks) ho hq' (by rw [← RepK.length (f := keyT) rw']; exact Nat.lt_of_lt_of_le hl (by decide)), _, δ, hE, G, S3.set hm hw ⟨_, rfl, RepK.put keyT_inj rw' ks z2.1.2⟩, z1, z2.1.1⟩
/-- o.pop(k), it is there -/
theorem ew_dpop (h1 : EV X b δ M o (.loc (.ref a))) (h2 : EV X b δ M k (.int i)) (hm : M a = some (.dI kvs)) (hw : Wr b a) (hl : lookD kvs i = some d) (hE : Φ (um M a (.dI (dropD kvs i))) d) (m : M1 X o "pop" apos k cpos := by exact ⟨rfl, rfl, rfl, rfl⟩) : EW X b δ M (.Call (.Attribute o "pop" apos) [k] [] cpos) Φ Ψ := fun R mR σ H Q S kk kx => by
  refine we_of (pe_dpop1 pe_we pe_we m) ?_
  refine h1 R mR σ H _ S (fun M1 d' x H1 p1 S1 => ?_) .nx
  obtain ⟨rfl, rfl⟩ := p1
  obtain ⟨G1, S1', z1⟩ := id S1
  refine ⟨a, Rep.loc_iff.mp z1.2.2, (IsKey.i (i := i) (.inl hm)).isD S1', ?_⟩
  refine h2 R mR σ H1 _ (S1.imp fun G z => ⟨z.1, z.2.1⟩) (fun M2 d' y H2 p2 S2 => ?_) .nx
  obtain ⟨rfl, rfl⟩ := p2
  obtain ⟨G, S2, z1, z2, z3⟩ := S2
  obtain ⟨_, ob, ho, ws, eo, rw'⟩ := S2.cel a _ hm
  subst eo
  obtain ⟨v, q1, q2⟩ := (RepK.look (f := keyI) keyI_inj rw' i).1 d hl
  exact ⟨ws, keyI i, v, ho, Rep.int_iff.mp z3, q1, kk _ _ _ _ hE ⟨G, S2.set hm hw ⟨_, rfl, RepK.drop (f := keyI) keyI_inj rw' i⟩, z1, z2, q2⟩⟩

/-! ### walks over a locked dict -/
theorem ev_lock (hm : M a = some (.dI kvs)) (h : ∀ (b' : Bs) (od : Obj) (ws : List (Key × V)), (∀ p, Wr b' p ↔ Wr b p) → EV X b' δ (um M a (.dZ od kvs ws)) e d) : EV X b δ M e d := fun R mR σ H Q S kk kx => by
  refine we_of (pe_lock pe_we) ?_
  obtain ⟨G, S, z⟩ := S
  obtain ⟨ws, hp, hl⟩ := S.lock hm
  refine ⟨a, .dK ws, hp, trivial, fun od => ?_⟩
  refine h (lk b G H a od (.dK ws)) od ws (S.wr_lk hp) R mR σ _ _ ⟨G, hl od, z⟩ (fun M' d' v H' p S' => ?_) .nx
  obtain ⟨rfl, rfl⟩ := p
  obtain ⟨G', S', z'⟩ := S'
  obtain ⟨q1, q2⟩ := S.unlock hp S' um_same
  refine ⟨q1, kk _ _ _ _ ⟨rfl, rfl⟩ ⟨G', ?_, z'⟩⟩
  rw [um_um] at q2
  have eM : um M a (.dI kvs) = M := by
    funext x
    by_cases hx : x = a
    · subst hx; rw [um_same, hm]
    · rw [um_ne hx]
  rw [eM] at q2
  exact q2
theorem iw_keys {od : Obj} {ws : List (Key × V)} {Φ : Mp → (Mp → Prop) → List D → Prop} (h : EV X b δ M o (.loc (.ref a))) (hm : M a = some (.dZ od kvs ws)) (hΦ : Φ M (fun M' => M' a = some (.dZ od kvs ws)) (kvs.map fun kv => .int kv.1)) : IW X b δ M tg o Φ Ψ := fun R mR σ H Q S k kx => by
  refine wi_of (pi_keys pe_we) ?_
  refine h R mR σ H _ S (fun M1 d v H1 p S1 => ?_) .nx
  obtain ⟨rfl, rfl⟩ := p
  obtain ⟨G, S1, z1, z2, z3⟩ := S1
  obtain ⟨_, ob, ho, eo, rw'⟩ := S1.cel a _ hm
  subst eo
  refine ⟨a, od, Rep.loc_iff.mp z3, .inl ⟨ws, ho, ?_⟩⟩
  refine k _ _ _ H1 _ R hΦ mR (fun G z => z) ⟨G, S1, z1, z2⟩ ?_
  refine ⟨_, _, by rw [List.length_map, RepK.length (f := keyI) rw']; exact walk_keys (d := a) (o := od) (kvs := ws), ?ga, ?gb⟩
  case ga =>
    intro M' H' hc ⟨G, S', z⟩
    obtain ⟨_, ob, ho, eo, _⟩ := S'.cel a _ hc
    subst eo
    exact ho
  case gb =>
    intro i d x M' R' H' H'' mR' hi hc ⟨G, S', r', z⟩ y
    obtain ⟨rfl, kk, vv, hk, rfl⟩ := y
    refine ⟨G, S', r', z, ?_⟩
    rw [List.getElem?_map] at hi
    cases q : kvs[i]? with
    | none => rw [q] at hi; cases hi
    | some kv =>
      rw [q] at hi
      cases hi
      obtain ⟨v, q1, _⟩ := RepK.get (f := keyI) rw' (k := kv.1) (d := kv.2) q
      rw [hk] at q1
      cases q1
      exact Rep.int_iff.mpr rfl
theorem iw_vals {od : Obj} {ws : List (Key × V)} {Φ : Mp → (Mp → Prop) → List D → Prop} (h : EV X b δ M o (.loc (.ref a))) (hm : M a = some (.dZ od kvs ws)) (hΦ : Φ M (fun M' => M' a = some (.dZ od kvs ws)) (kvs.map fun kv => kv.2)) (hbase : attributeBase o "values" X.env (eval o X.env) = eval o X.env := by rfl) (hline : (apos.endLine == cpos.line) = true := by rfl) : IW X b δ M tg (.Call (.Attribute o "values" apos) [] [] cpos) Φ Ψ := fun R mR σ H Q S k kx => by
  refine wi_of (pi_values pe_we hbase hline) ?_
  refine h R mR σ H _ S (fun M1 d v H1 p S1 => ?_) .nx
  obtain ⟨rfl, rfl⟩ := p
  obtain ⟨G, S1, z1, z2, z3⟩ := S1
  obtain ⟨_, ob, ho, eo, rw'⟩ := S1.cel a _ hm
  subst eo
  refine ⟨a, od, ws, Rep.loc_iff.mp z3, ho, ?_⟩
  refine k _ _ _ H1 _ R hΦ mR (fun G z => z) ⟨G, S1, z1, z2⟩ ?_
  refine ⟨_, _, by rw [List.length_map, RepK.length (f := keyI) rw']; exact walk_values (d := a) (o := od) (kvs := ws), ?ga, ?gb⟩
  case ga =>
    intro M' H' hc ⟨G, S', z⟩
    obtain ⟨_, ob, ho, eo, _⟩ := S'.cel a _ hc
    subst eo
    exact ho
  case gb =>
    intro i d x M' R' H' H'' mR' hi hc ⟨G, S', r', z⟩ y
    obtain ⟨rfl, kk, hk⟩ := y
    obtain ⟨_, ob, ho, eo, rw2⟩ := S'.cel a _ hc
    refine ⟨G, S', r', z, ?_⟩
    rw [List.getElem?_map] at hi
    cases q : kvs[i]? with
    | none => rw [q] at hi; cases hi
    | some kv =>
      rw [q] at hi
      cases hi
      obtain ⟨v, q1, rv⟩ := RepK.get (f := keyI) rw2 (k := kv.1) (d := kv.2) q
      rw [hk] at q1
      cases q1
      exact rv
theorem iw_items {elts : List Expr} {kk : Nat} {tpos : Pos} {od : Obj} {ws : List (Key × V)} {Φ : Mp → (Mp → Prop) → List D → Prop} (h : EV X b δ M o (.loc (.ref a))) (hm : M a = some (.dZ od kvs ws)) (hΦ : Φ M (fun M' => M' a = some (.dZ od kvs ws)) (kvs.map fun kv => .tup [.int kv.1, kv.2])) (hbase : attributeBase o "items" X.env (eval o X.env) = eval o X.env := by rfl) (hline : (apos.endLine == cpos.line) = true := by rfl) : IW X b δ M (.Tuple elts kk tpos) (.Call (.Attribute o "items" apos) [] [] cpos) Φ Ψ := fun R mR σ H Q S k kx => by
  refine wi_of (pi_items pe_we hbase hline) ?_
  refine h R mR σ H _ S (fun M1 d v H1 p S1 => ?_) .nx
  obtain ⟨rfl, rfl⟩ := p
  obtain ⟨G, S1, z1, z2, z3⟩ := S1
  obtain ⟨_, ob, ho, eo, rw'⟩ := S1.cel a _ hm
  subst eo
  refine ⟨a, od, ws, Rep.loc_iff.mp z3, ho, ?_⟩
  refine k _ _ _ H1 _ R hΦ mR (fun G z => z) ⟨G, S1, z1, z2⟩ ?_
  refine ⟨_, _, by rw [List.length_map, RepK.length (f := keyI) rw']; exact walk_items (d := a) (o := od) (kvs := ws), ?ga, ?gb⟩
  case ga =>
    intro M' H' hc ⟨G, S', z⟩
    obtain ⟨_, ob, ho, eo, _⟩ := S'.cel a _ hc
    subst eo
    exact ho
  case gb =>
    intro i d x M' R' H' H'' mR' hi hc ⟨G, S', r', z⟩ y
    obtain ⟨T, x1, x2, rfl, hT, rfl, hx1, hx2⟩ := y
    obtain ⟨_, ob, ho, eo, rw2⟩ := S'.cel a _ hc
    rw [List.getElem?_map] at hi
    cases q : kvs[i]? with
    | none => rw [q] at hi; cases hi
    | some kv =>
      rw [q] at hi
      cases hi
      obtain ⟨v, q1, rv⟩ := RepK.get (f := keyI) rw2 (k := kv.1) (d := kv.2) q
      have hx1 : Option.map (fun kv => kV kv.1) ws[i]? = some x1 := hx1
      have hx2 : Option.map Prod.snd ws[i]? = some x2 := hx2
      rw [q1] at hx1 hx2
      cases hx1; cases hx2
      obtain ⟨S2, sg⟩ := S'.frz hT (.tup [.int kv.1, v])
      exact ⟨_, S2, mR' _ _ sg r', mR _ _ sg z, Rep.tup_iff.mpr ⟨T, _, rfl, upd_same, .cons (Rep.int_iff.mpr rfl) (.cons (rv.mono sg) .nil)⟩⟩
end
end D4
end

section
set_option maxRecDepth 100000
set_option maxHeartbeats 4000000
/-! D4e: calls of built-ins, methods, own defs, instances, comprehensions, raise. -/
namespace D4
open PySem L2

section
variable {X : Cx} {b : Bs} {δ : Od} {M : Mp} {e o k e1 e2 tg : Expr} {es : List Expr} {Φ : Mp → D → Prop} {Ψ : Xs} {d d1 d2 : D} {ds : List D} {pos apos cpos p : Pos} {a : Addr} {x : Str} {id T : String}
theorem cw_of {f : Value} {r : List V → Hp → VK → Prop} (hr : CallR X f r)
    (h : ∀ (R : Hp → Prop), Mono R → ∀ (xs : List V) (H G : Hp) (Q : VK), SO X.K b M G H → R G → Reps X.K G ds xs → (∀ M' d v H', Φ M' d → SS X.K b M' (fun G => R G ∧ Rep X.K G d v) H' → Q v H') → r xs H Q) : CW X b f M ds Φ := fun R mR xs H Q S k => by
  obtain ⟨G, S, z1, z2⟩ := S
  exact wc_of hr (h R mR xs H G Q S z1 z2 k)
theorem ew_cb (hg : Gl X x) (hm : X.mg x = none) (hv : bootBuiltins x = some (.builtin id)) (h : EWs X b δ M (e :: es) (fun M1 ds => CW X b (.builtin id) M1 ds Φ) Ψ) (hn : x ≠ "__name__" := by decide) (hdb : (x == ("__debug__" : Str)) = false := by decide)
    (he : starEach (e :: es) X.env = (false, eval e X.env) :: starEach es X.env := by exact D4.starEach_c rfl) (hpl : (backTo pos (starEach es X.env)).any (·.1) = false := by exact D4.back_any rfl) : EW X b δ M (.Call (.Name x p) (e :: es) [] pos) Φ Ψ := fun R mR σ H Q S kk kx => by
  refine we_of (pe_callB (wc_op (f := .builtin id)) hg hm hv pa_wa hn hdb he hpl) ?_
  refine h R mR σ H _ S (fun M1 ds xs H1 p1 S1 => ?_) kx
  exact p1 (RE X.K σ δ R) (Mono.env.and mR) xs H1 Q (S1.imp fun G z => ⟨⟨z.1, z.2.1⟩, z.2.2⟩) fun M3 d v H3 p S3 => kk M3 d v H3 p (S3.imp fun G z => ⟨z.1.1, z.1.2, z.2⟩)
theorem ew_ct (hg : Gl X x) (hm : X.mg x = none) (hv : bootBuiltins x = some (.type T)) (h : EWs X b δ M (e :: es) (fun M1 ds => CW X b (.type T) M1 ds Φ) Ψ) (hn : x ≠ "__name__" := by decide) (hdb : (x == ("__debug__" : Str)) = false := by decide)
    (he : starEach (e :: es) X.env = (false, eval e X.env) :: starEach es X.env := by exact D4.starEach_c rfl) (hpl : (backTo pos (starEach es X.env)).any (·.1) = false := by exact D4.back_any rfl) : EW X b δ M (.Call (.Name x p) (e :: es) [] pos) Φ Ψ := fun R mR σ H Q S kk kx => by
  refine we_of (pe_callTy (wc_op (f := .type T)) hg hm hv pa_wa hn hdb he hpl) ?_
  refine h R mR σ H _ S (fun M1 ds xs H1 p1 S1 => ?_) kx
  exact p1 (RE X.K σ δ R) (Mono.env.and mR) xs H1 Q (S1.imp fun G z => ⟨⟨z.1, z.2.1⟩, z.2.2⟩) fun M3 d v H3 p S3 => kk M3 d v H3 p (S3.imp fun G z => ⟨z.1.1, z.1.2, z.2⟩)
theorem ev_cb (hg : Gl X x) (hm : X.mg x = none) (hv : bootBuiltins x = some (.builtin id)) (h : EVs X b δ M (e :: es) ds) (hc : CW X b (.builtin id) M ds (One M d)) (hn : x ≠ "__name__" := by decide) (hdb : (x == ("__debug__" : Str)) = false := by decide)
    (he : starEach (e :: es) X.env = (false, eval e X.env) :: starEach es X.env := by exact D4.starEach_c rfl) (hpl : (backTo pos (starEach es X.env)).any (·.1) = false := by exact D4.back_any rfl) : EV X b δ M (.Call (.Name x p) (e :: es) [] pos) d := ew_cb hg hm hv (h.to hc) hn hdb he hpl
theorem ev_ct (hg : Gl X x) (hm : X.mg x = none) (hv : bootBuiltins x = some (.type T)) (h : EVs X b δ M (e :: es) ds) (hc : CW X b (.type T) M ds (One M d)) (hn : x ≠ "__name__" := by decide) (hdb : (x == ("__debug__" : Str)) = false := by decide)
    (he : starEach (e :: es) X.env = (false, eval e X.env) :: starEach es X.env := by exact D4.starEach_c rfl) (hpl : (backTo pos (starEach es X.env)).any (·.1) = false := by exact D4.back_any rfl) : EV X b δ M (.Call (.Name x p) (e :: es) [] pos) d := ew_ct hg hm hv (h.to hc) hn hdb he hpl

/-! ### the built-ins -/
theorem reps1 {K : Fg} {G : Hp} {xs : List V} (r : Reps K G [d1] xs) : ∃ v, xs = [v] ∧ Rep K G d1 v := by
  obtain ⟨v, r', e, h, t⟩ := r.cons_inv
  rw [t.nil_inv] at e
  exact ⟨v, e, h⟩
theorem reps2 {K : Fg} {G : Hp} {xs : List V} (r : Reps K G [d1, d2] xs) : ∃ v w, xs = [v, w] ∧ Rep K G d1 v ∧ Rep K G d2 w := by
  obtain ⟨v, r', e, h, t⟩ := r.cons_inv
  obtain ⟨w, e2, h2⟩ := reps1 t
  rw [e2] at e
  exact ⟨v, w, e, h, h2⟩
theorem c_len_lst {xs : List D} : CW X b (.builtin "len") M [.lst xs] (One M (.int xs.length)) := cw_of call_len_seq fun R mR vs H G Q S z r k => by
  obtain ⟨v, rfl, h⟩ := reps1 r
  obtain ⟨a, ws, rfl, ha, rs⟩ := Rep.lst_iff.mp h
  exact ⟨a, ws, rfl, .inl (SqL.of (S.gh _ _ ha)), k _ _ _ H ⟨rfl, rfl⟩ ⟨G, S, z, Rep.int_iff.mpr (by rw [rs.length])⟩⟩
theorem c_len_tup {xs : List D} : CW X b (.builtin "len") M [.tup xs] (One M (.int xs.length)) := cw_of call_len_seq fun R mR vs H G Q S z r k => by
  obtain ⟨v, rfl, h⟩ := reps1 r
  obtain ⟨a, ws, rfl, ha, rs⟩ := Rep.tup_iff.mp h
  exact ⟨a, ws, rfl, .inr (SqT.of (S.gh _ _ ha)), k _ _ _ H ⟨rfl, rfl⟩ ⟨G, S, z, Rep.int_iff.mpr (by rw [rs.length])⟩⟩
theorem c_len_scr {ns : List Int} : CW X b (.builtin "len") M [.scr ns] (One M (.int ns.length)) := cw_of call_len_seq fun R mR vs H G Q S z r k => by
  obtain ⟨v, rfl, h⟩ := reps1 r
  obtain ⟨a, rfl, ha⟩ := Rep.scr_iff.mp h
  exact ⟨a, _, rfl, .inl (S.gh.seq ha), k _ _ _ H ⟨rfl, rfl⟩ ⟨G, S, z, Rep.int_iff.mpr (by rw [List.length_map])⟩⟩
theorem c_len_cell {xs : List D} (hm : M a = some (.lst xs)) : CW X b (.builtin "len") M [.loc (.ref a)] (One M (.int xs.length)) := cw_of call_len_seq fun R mR vs H G Q S z r k => by
  obtain ⟨v, rfl, h⟩ := reps1 r
  rw [Rep.loc_iff] at h
  subst h
  obtain ⟨_, o, ho, ws, rfl, rs⟩ := S.cel a _ hm
  exact ⟨a, ws, rfl, .inl (SqL.of ho), k _ _ _ H ⟨rfl, rfl⟩ ⟨G, S, z, Rep.int_iff.mpr (by rw [rs.length])⟩⟩
theorem c_len_str {z : Str} (hl : z.length ≤ 100000) : CW X b (.builtin "len") M [.str z] (One M (.int z.length)) := cw_of call_len_str fun R mR vs H G Q S z r k => by
  obtain ⟨v, rfl, h⟩ := reps1 r
  exact ⟨_, by rw [Rep.str_iff.mp h], Nat.le_trans hl (by decide), k _ _ _ H ⟨rfl, rfl⟩ ⟨G, S, z, Rep.int_iff.mpr rfl⟩⟩
theorem call_lenR : CallR X (.builtin "len") (fun xs H Q => ∃ a kvs, xs = [V.ref a] ∧ Rd H a (.dK kvs) ∧ Q (.int kvs.length) H) := by
  intro pins s σ H xs us Q I r h
  obtain ⟨a, kvs, rfl, ha, q⟩ := h
  obtain ⟨u, rfl, ru⟩ := vals1 r
  cases ru
  exact d_len I ha fun t s' I' => ⟨.int kvs.length, H, I', ⟨t, rfl⟩, q⟩
theorem c_len_dk {kvs : List (Int × D)} (hm : DkI M a kvs) : CW X b (.builtin "len") M [.loc (.ref a)] (One M (.int kvs.length)) := cw_of call_lenR fun R mR vs H G Q S z r k => by
  obtain ⟨v, rfl, h⟩ := reps1 r
  obtain ⟨ws, h1, h2⟩ := S.dk hm
  exact ⟨a, ws, by rw [Rep.loc_iff.mp h], h1, k _ _ _ H ⟨rfl, rfl⟩ ⟨G, S, z, Rep.int_iff.mpr (by rw [RepK.length (f := keyI) h2])⟩⟩
/-- list(xs): a new list, frozen; or one that may change -/
theorem c_list_lst {xs : List D} : CW X b (.type "list") M [.lst xs] (One M (.lst xs)) := cw_of call_list_of fun R mR vs H G Q S z r k => by
  obtain ⟨v, rfl, h⟩ := reps1 r
  obtain ⟨a, ws, rfl, ha, rs⟩ := Rep.lst_iff.mp h
  refine ⟨a, ws, rfl, .inl (SqL.of (S.gh _ _ ha)), fun l hl => ?_⟩
  obtain ⟨S2, sg⟩ := S.frz hl (.lst ws)
  exact k _ _ _ _ ⟨rfl, rfl⟩ ⟨_, S2, mR _ _ sg z, Rep.lst_iff.mpr ⟨l, ws, rfl, upd_same, rs.mono sg⟩⟩
theorem c_list_lstN {xs : List D} (h : ∀ p, M p = none → Nw b p → Φ (um M p (.lst xs)) (.loc (.ref p))) : CW X b (.type "list") M [.lst xs] Φ := cw_of call_list_of fun R mR vs H G Q S z r k => by
  obtain ⟨v, rfl, h'⟩ := reps1 r
  obtain ⟨a, ws, rfl, ha, rs⟩ := Rep.lst_iff.mp h'
  refine ⟨a, ws, rfl, .inl (SqL.of (S.gh _ _ ha)), fun l hl => ?_⟩
  obtain ⟨n1, n2, n3⟩ := S.new hl
  exact k _ _ _ _ (h l n1 n2) ⟨G, S.cell (c := .lst xs) hl ⟨ws, rfl, rs⟩, z, Rep.loc_iff.mpr rfl⟩
theorem c_list_cellN {xs : List D} (hm : M a = some (.lst xs)) (h : ∀ p, M p = none → Nw b p → Φ (um M p (.lst xs)) (.loc (.ref p))) : CW X b (.type "list") M [.loc (.ref a)] Φ := cw_of call_list_of fun R mR vs H G Q S z r k => by
  obtain ⟨v, rfl, h'⟩ := reps1 r
  rw [Rep.loc_iff] at h'
  subst h'
  obtain ⟨_, o, ho, ws, rfl, rs⟩ := S.cel a _ hm
  refine ⟨a, ws, rfl, .inl (SqL.of ho), fun l hl => ?_⟩
  obtain ⟨n1, n2, n3⟩ := S.new hl
  exact k _ _ _ _ (h l n1 n2) ⟨G, S.cell (c := .lst xs) hl ⟨ws, rfl, rs⟩, z, Rep.loc_iff.mpr rfl⟩
theorem c_list_cell {xs : List D} (hm : M a = some (.lst xs)) : CW X b (.type "list") M [.loc (.ref a)] (One M (.lst xs)) := cw_of call_list_of fun R mR vs H G Q S z r k => by
  obtain ⟨v, rfl, h'⟩ := reps1 r
  rw [Rep.loc_iff] at h'
  subst h'
  obtain ⟨_, o, ho, ws, rfl, rs⟩ := S.cel a _ hm
  refine ⟨a, ws, rfl, .inl (SqL.of ho), fun l hl => ?_⟩
  obtain ⟨S2, sg⟩ := S.frz hl (.lst ws)
  exact k _ _ _ _ ⟨rfl, rfl⟩ ⟨_, S2, mR _ _ sg z, Rep.lst_iff.mpr ⟨l, ws, rfl, upd_same, rs.mono sg⟩⟩
theorem c_tuple_lst {xs : List D} : CW X b (.type "tuple") M [.lst xs] (One M (.tup xs)) := cw_of call_tuple_of fun R mR vs H G Q S z r k => by
  obtain ⟨v, rfl, h⟩ := reps1 r
  obtain ⟨a, ws, rfl, ha, rs⟩ := Rep.lst_iff.mp h
  refine ⟨a, ws, rfl, .inl ⟨SqL.of (S.gh _ _ ha), fun l hl => ?_⟩⟩
  obtain ⟨S2, sg⟩ := S.frz hl (.tup ws)
  exact k _ _ _ _ ⟨rfl, rfl⟩ ⟨_, S2, mR _ _ sg z, Rep.tup_iff.mpr ⟨l, ws, rfl, upd_same, rs.mono sg⟩⟩
theorem call_dictC : CallR X (.type "dict") (fun xs H Q => ∃ a kvs, xs = [V.ref a] ∧ Rd H a (.dK kvs) ∧ ∀ p, H p = none → Q (.ref p) (upd H p (.dK kvs))) := by
  intro pins s σ H xs us Q I r h
  obtain ⟨a, kvs, rfl, ha, q⟩ := h
  obtain ⟨u, rfl, ru⟩ := vals1 r
  cases ru
  exact d_copyOf I ha fun p s' hp I' => ⟨.ref p, _, I', rfl, q p hp⟩
theorem c_dict {kvs : List (Int × D)} (hm : DkI M a kvs) (h : ∀ p, M p = none → Nw b p → Φ (um M p (.dI kvs)) (.loc (.ref p))) : CW X b (.type "dict") M [.loc (.ref a)] Φ := cw_of call_dictC fun R mR vs H G Q S z r k => by
  obtain ⟨v, rfl, h'⟩ := reps1 r
  obtain ⟨ws, h1, h2⟩ := S.dk hm
  refine ⟨a, ws, by rw [Rep.loc_iff.mp h'], h1, fun l hl => ?_⟩
  obtain ⟨n1, n2, n3⟩ := S.new hl
  exact k _ _ _ _ (h l n1 n2) ⟨G, S.cell (c := .dI kvs) hl ⟨ws, rfl, h2⟩, z, Rep.loc_iff.mpr rfl⟩
theorem c_max {ns : List Int} {m : Int} (hc : X.calm = true) (h1 : m ∈ ns) (h2 : ∀ y ∈ ns, y ≤ m) : CW X b (.builtin "max") M [.lst (ns.map D.int)] (One M (.int m)) := cw_of (cr_max hc) fun R mR vs H G Q S z r k => by
  obtain ⟨v, rfl, h⟩ := reps1 r
  obtain ⟨a, ws, rfl, ha, rs⟩ := Rep.lst_iff.mp h
  have e := rs.ints
  subst e
  refine ⟨a, ns, rfl, SqL.of (S.gh _ _ ha), List.length_pos_of_mem h1, fun m' q1 q2 => ?_⟩
  have em : m' = m := Int.le_antisymm (h2 _ q1) (q2 _ h1)
  subst em
  exact k _ _ _ H ⟨rfl, rfl⟩ ⟨G, S, z, Rep.int_iff.mpr rfl⟩
theorem c_min {ns : List Int} {m : Int} (hc : X.calm = true) (h1 : m ∈ ns) (h2 : ∀ y ∈ ns, m ≤ y) : CW X b (.builtin "min") M [.lst (ns.map D.int)] (One M (.int m)) := cw_of (cr_min hc) fun R mR vs H G Q S z r k => by
  obtain ⟨v, rfl, h⟩ := reps1 r
  obtain ⟨a, ws, rfl, ha, rs⟩ := Rep.lst_iff.mp h
  have e := rs.ints
  subst e
  refine ⟨a, ns, rfl, SqL.of (S.gh _ _ ha), List.length_pos_of_mem h1, fun m' q1 q2 => ?_⟩
  have em : m' = m := Int.le_antisymm (q2 _ h1) (h2 _ q1)
  subst em
  exact k _ _ _ H ⟨rfl, rfl⟩ ⟨G, S, z, Rep.int_iff.mpr rfl⟩
theorem c_max2 {i j : Int} (hc : X.calm = true) : CW X b (.builtin "max") M [.int i, .int j] (One M (.int (if j > i then j else i))) := cw_of (call_max2 hc) fun R mR vs H G Q S z r k => by
  obtain ⟨v, w, rfl, h, h'⟩ := reps2 r
  exact ⟨i, j, by rw [Rep.int_iff.mp h, Rep.int_iff.mp h'], k _ _ _ H ⟨rfl, rfl⟩ ⟨G, S, z, Rep.int_iff.mpr rfl⟩⟩
theorem c_min2 {i j : Int} (hc : X.calm = true) : CW X b (.builtin "min") M [.int i, .int j] (One M (.int (if j < i then j else i))) := cw_of (call_min2 hc) fun R mR vs H G Q S z r k => by
  obtain ⟨v, w, rfl, h, h'⟩ := reps2 r
  exact ⟨i, j, by rw [Rep.int_iff.mp h, Rep.int_iff.mp h'], k _ _ _ H ⟨rfl, rfl⟩ ⟨G, S, z, Rep.int_iff.mpr rfl⟩⟩
theorem c_all {bs : List Bool} (hc : X.calm = true) : CW X b (.builtin "all") M [.lst (bs.map D.bl)] (One M (.bl (bs.all fun c => c))) := cw_of (cr_all hc) fun R mR vs H G Q S z r k => by
  obtain ⟨v, rfl, h⟩ := reps1 r
  obtain ⟨a, ws, rfl, ha, rs⟩ := Rep.lst_iff.mp h
  have e := rs.bls
  subst e
  exact ⟨a, bs, rfl, SqL.of (S.gh _ _ ha), k _ _ _ H ⟨rfl, rfl⟩ ⟨G, S, z, Rep.bl_iff.mpr rfl⟩⟩
theorem c_int_bl {c : Bool} : CW X b (.type "int") M [.bl c] (One M (.int (if c then 1 else 0))) := cw_of call_int1 fun R mR vs H G Q S z r k => by
  obtain ⟨v, rfl, h⟩ := reps1 r
  exact .inr ⟨c, by rw [Rep.bl_iff.mp h], k _ _ _ H ⟨rfl, rfl⟩ ⟨G, S, z, Rep.int_iff.mpr rfl⟩⟩
theorem c_str_int {i : Int} (hl : i.natAbs.log2 < 1920) : CW X b (.type "str") M [.int i] (One M (.str (toString i))) := cw_of call_str_int fun R mR vs H G Q S z r k => by
  obtain ⟨v, rfl, h⟩ := reps1 r
  exact ⟨i, by rw [Rep.int_iff.mp h], hl, k _ _ _ H ⟨rfl, rfl⟩ ⟨G, S, z, Rep.str_iff.mpr rfl⟩⟩
/-- sorted(xs) of ints -/
theorem pw_unique : ∀ {l m : List Int}, l.Perm m → l.Pairwise (· ≤ ·) → m.Pairwise (· ≤ ·) → l = m := fun {l m} hp h1 h2 => List.Perm.eq_of_pairwise (fun a b _ _ h h' => Int.le_antisymm h h') h1 h2 hp
theorem c_sorted {ns ms : List Int} (hp : ms.Perm ns) (hs : ms.Pairwise (· ≤ ·)) (hl : ns.length < 64) : CW X b (.builtin "sorted") M [.lst (ns.map D.int)] (One M (.lst (ms.map D.int))) := cw_of cr_sorted fun R mR vs H G Q S z r k => by
  obtain ⟨v, rfl, h⟩ := reps1 r
  obtain ⟨a, ws, rfl, ha, rs⟩ := Rep.lst_iff.mp h
  have e := rs.ints
  subst e
  refine ⟨a, ns, rfl, SqL.of (S.gh _ _ ha), hl, fun ns' l q1 q2 hn => ?_⟩
  obtain ⟨S2, sg⟩ := S.frz hn (.lst (ns'.map V.int))
  have e : ns' = ms := pw_unique (q1.trans hp.symm) q2 hs
  subst e
  exact k _ _ _ _ ⟨rfl, rfl⟩ ⟨_, S2, mR _ _ sg z, Rep.lst_iff.mpr ⟨l, _, rfl, upd_same, .of_ints ns'⟩⟩
theorem c_sortedD {kvs : List (Int × D)} {ms : List Int} (hc : X.calm = true) (hm : DkI M a kvs) (hp : ms.Perm (kvs.map (·.1))) (hs : ms.Pairwise (· ≤ ·)) (hl : kvs.length < 64) : CW X b (.builtin "sorted") M [.loc (.ref a)] (One M (.lst (ms.map D.int))) := cw_of (call_sortedDI hc) fun R mR vs H G Q S z r k => by
  obtain ⟨v, rfl, h⟩ := reps1 r
  obtain ⟨ws, h1, h2⟩ := S.dk hm
  refine ⟨a, ws, kvs.map (fun kv : Int × D => kv.1), by rw [Rep.loc_iff.mp h], h1, (RepK.keys (f := keyI) h2 : ws.map (·.1) = (kvs.map (fun kv : Int × D => kv.1)).map keyI), by rw [List.length_map]; exact hl, fun ns' l q1 q2 hn => ?_⟩
  obtain ⟨S2, sg⟩ := S.frz hn (.lst (ns'.map V.int))
  have e : ns' = ms := pw_unique (q1.trans hp.symm) q2 hs
  subst e
  exact k _ _ _ _ ⟨rfl, rfl⟩ ⟨_, S2, mR _ _ sg z, Rep.lst_iff.mpr ⟨l, _, rfl, upd_same, .of_ints ns'⟩⟩

/-! ### methods of built-in types -/
theorem ew_bm (pa : PlainAttrs T) (slot : Slot T x id) (hty : typeOf (.builtin id) = pure (.type "method_descriptor"))
    (h : EW X b δ M o (fun M1 d1 => (∀ G H v, SO X.K b M1 G H → Rep X.K G d1 v → tyV X.K T v H) ∧ EWs X b δ M1 (e :: es) (fun M2 ds => MW X b T id M2 d1 ds Φ) Ψ) Ψ)
    (hbase : attributeBase o x X.env (eval o X.env) = eval o X.env := by rfl)
    (hfew : ((backTo cpos (starEach (e :: es) X.env)).all (fun x => !x.1) && (backToKw cpos (keywordEach [] X.env)).all (fun x => x.1.isSome)
      && decide ((e :: es).length + ([] : List Keyword).length + (if ([] : List Keyword).isEmpty then 0 else 1) < 30)) = true := by exact D4.few_ok rfl)
    (hline : (apos.endLine == cpos.line) = true := by rfl) (hs : starEach (e :: es) X.env = (false, eval e X.env) :: starEach es X.env := by exact D4.starEach_c rfl) (hplain : (backTo cpos (starEach es X.env)).any (·.1) = false := by exact D4.back_any rfl) : EW X b δ M (.Call (.Attribute o x apos) (e :: es) [] cpos) Φ Ψ := fun R mR σ H Q S kk kx => by
  refine we_of (pe_bm pa slot hty (wm_op (id := id)) pe_we pa_wa hbase hfew hline hs hplain) ?_
  refine h R mR σ H _ S (fun M1 d1 v H1 p1 S1 => ?_) kx
  have S1c := S1
  obtain ⟨G1, S1', z1⟩ := S1c
  refine ⟨p1.1 _ _ _ S1' z1.2.2, ?_⟩
  refine p1.2 (fun G => R G ∧ Rep X.K G d1 v) (mR.and .rep) σ H1 _ S1 (fun M2 ds xs H2 p2 S2 => ?_) kx.and
  exact p2 (RE X.K σ δ R) (Mono.env.and mR) v xs H2 Q (S2.imp fun G z => ⟨⟨z.1, z.2.1.1⟩, z.2.1.2, z.2.2⟩) fun M3 d v H3 p S3 => kk M3 d v H3 p (S3.imp fun G z => ⟨z.1.1, z.1.2, z.2⟩)
theorem mw_of {r : V → List V → Hp → VK → Prop} (hr : MtR X id r)
    (h : ∀ (R : Hp → Prop), Mono R → ∀ (x : V) (xs : List V) (H G : Hp) (Q : VK), SO X.K b M G H → R G → Rep X.K G d1 x → Reps X.K G ds xs → (∀ M' d v H', Φ M' d → SS X.K b M' (fun G => R G ∧ Rep X.K G d v) H' → Q v H') → r x xs H Q) : MW X b T id M d1 ds Φ := fun R mR x xs H Q S k => by
  obtain ⟨G, S, z1, z2, z3⟩ := S
  exact wm_of hr (h R mR x xs H G Q S z1 z2 z3 k)
/-- xs.append(e), xs a cell -/
theorem ew_append {xs : List D} (h1 : EV X b δ M o (.loc (.ref a))) (hm : M a = some (.lst xs)) (hw : Wr b a) (hl : xs.length < 100000) (h2 : EW X b δ M e (fun M2 d => M2 a = some (.lst xs) ∧ Φ (um M2 a (.lst (xs ++ [d]))) .non) Ψ)
    (hbase : attributeBase o "append" X.env (eval o X.env) = eval o X.env := by rfl)
    (hfew : ((backTo cpos (starEach [e] X.env)).all (fun x => !x.1) && (backToKw cpos (keywordEach [] X.env)).all (fun x => x.1.isSome)
      && decide (([e] : List Expr).length + ([] : List Keyword).length + (if ([] : List Keyword).isEmpty then 0 else 1) < 30)) = true := by exact D4.few_ok rfl)
    (hline : (apos.endLine == cpos.line) = true := by rfl) (hs : starEach [e] X.env = (false, eval e X.env) :: starEach [] X.env := by exact D4.starEach_c rfl) (hplain : (backTo cpos (starEach [] X.env)).any (·.1) = false := by exact D4.back_any rfl) : EW X b δ M (.Call (.Attribute o "append" apos) [e] [] cpos) Φ Ψ := by
  refine ew_bm PySem.F.plainAttrs_list PySem.F.slot_list_append PySem.F.type_list_append (h1.to ⟨fun G H v S r => ?_, ?_⟩) hbase hfew hline hs hplain
  · rw [Rep.loc_iff] at r
    subst r
    obtain ⟨_, o, ho, ws, rfl, rs⟩ := S.cel a _ hm
    exact .inl ⟨rfl, _, SqL.of ho⟩
  · refine ews_cons (h2.imp fun M2 d p2 => ?_) hs
    refine ews_nil (mw_of mt_append fun R mR v vs H G Q S z r rs k => ?_)
    rw [Rep.loc_iff] at r
    subst r
    obtain ⟨w, rfl, rw'⟩ := reps1 rs
    obtain ⟨_, o, ho, ws, rfl, rr⟩ := S.cel a _ p2.1
    refine ⟨a, ws, w, rfl, rfl, ho, by rw [← rr.length]; exact Nat.lt_of_lt_of_le hl (by decide), ?_⟩
    exact k _ _ _ _ p2.2 ⟨G, S.set p2.1 hw ⟨_, rfl, rr.append (.cons rw' .nil)⟩, z, Rep.non_iff.mpr rfl⟩
end
end D4
end

section
set_option maxRecDepth 100000
set_option maxHeartbeats 4000000
/-! D4f: own defs, instances, comprehensions, raise, try. -/
namespace D4
open PySem L2

/-! ### a def's promise over data -/
/-- what a def does: what it may change, what is new, the cells and the arguments at its call; what is wanted behind; what of the exceptions -/
abbrev FSp := (Addr → Prop) → (Addr → Prop) → Mp → List D → (Mp → D → Prop) → Xs → Prop
def spD (K : Fg) (S : FSp) : Sp := fun vs H Q E => ∃ G M ds own Φ Ψ, SO K ⟨G, H, own⟩ M G H ∧ Reps K G ds vs ∧ S own (fun p => H p = none) M ds Φ Ψ ∧
  (∀ M' d v H', Φ M' d → SS K ⟨G, H, own⟩ M' (fun G => Rep K G d v) H' → Q v H') ∧ (∀ cls M' H', Ψ cls M' → SS K ⟨G, H, own⟩ M' (fun _ => True) H' → E cls none H')
/-- a def that changes nothing that stood, with one value -/
def PureS (P : Mp → List D → D → Prop) : FSp := fun _ _ M ds Φ _ => ∃ d, P M ds d ∧ Φ M d
/-- .. or one exception -/
def PureX (P : Mp → List D → D ⊕ Value → Prop) : FSp := fun _ _ M ds Φ Ψ => ∃ r, P M ds r ∧ match r with
  | .inl d => Φ M d
  | .inr c => Ψ c M

section
variable {X : Cx} {CX : CXT} {k : Nat} {f C : Addr} {fd : FuncData} {ps : List Str} {sp : Sp} {E : L2.St → XK} {x m : Str} {p pos apos : Pos} {e o : Expr} {es : List Expr} {ta : TE} {t : TA}
def tMethS (C : Addr) (m : Str) (sp : Sp) (E : L2.St → XK) (ta : TE) (t : TA) : TE := fun σ H Q => ta σ H fun x H1 => ∃ a dx fs, x = .ref a ∧ H1 a = some (.ins C dx fs) ∧ fs.lookup m = none ∧ t σ H1 fun vs H2 => sp (x :: vs) H2 Q (E σ)
theorem pe_methSx {pl : Sem Bool} (he : PE X o ta) (c : Cls X.K C) (hm : Meth X.K C m f) (F : FnOk X.prog X.w X.K X.mg X.base CX k f fd ps sp) (hr : Room k X.A) (hb : Binds X.K fd ps []) (hx : ∀ σ, PassesAt CX X σ (E σ)) (ha : PA X (e :: es) t)
    (hst : starEach (e :: es) X.env = (false, eval e X.env) :: starEach es X.env := by exact D4.starEach_c rfl) (hpl : (backTo pos (starEach es X.env)).any (·.1) = false := by exact D4.back_any rfl)
    (ht : eval (.Call (.Attribute o m apos) (e :: es) [] pos) X.env = (do
      let ov ← eval o X.env
      standAt apos.atName
      let (f, first) ← holding [ov] (getMethod ov m pl)
      callWith pos f first (backTo pos (starEach (e :: es) X.env)) (backToKw pos (keywordEach [] X.env))) := by rfl) :
    PE X (.Call (.Attribute o m apos) (e :: es) [] pos) (tMethS C m sp E ta t) := by
  refine ⟨fun pins s σ H Q I h => ?_⟩
  refine PySem.W.methodCall_KW (pl := pl) (thn (he.run pins s σ H _ I h) fun u s1 ⟨x, H1, I1, rx, a, dx, fs, ex, ea, l, q⟩ => ?_) ht
  subst ex
  obtain rfl : u = Value.ref a := rx
  refine getmeth_ok I1 ea c hm l ?_
  refine PySem.W.callWith_K (first := [.ref a]) (h₀ := X.base) I.ok.mod.kin hm.kp (thn (ha.run pos pins s1 σ H1 _ I1 q) fun us s2 ⟨vs, H2, I2, r, q2⟩ => ⟨I2.kIn, ?_⟩) hst hpl
  exact run_fnS (us := .ref a :: us) (vs := .ref a :: vs) F hr hb (hx σ) I2 (.cons rfl r) q2
theorem pe_methSx0 {pl : Sem Bool} (he : PE X o ta) (c : Cls X.K C) (hm : Meth X.K C m f) (F : FnOk X.prog X.w X.K X.mg X.base CX k f fd ps sp) (hr : Room k X.A) (hb : Binds X.K fd ps []) (hx : ∀ σ, PassesAt CX X σ (E σ))
    (ht : eval (.Call (.Attribute o m apos) [] [] pos) X.env = (do
      let ov ← eval o X.env
      standAt apos.atName
      let (f, first) ← holding [ov] (getMethod ov m pl)
      callWith pos f first (backTo pos (starEach [] X.env)) (backToKw pos (keywordEach [] X.env))) := by rfl) :
    PE X (.Call (.Attribute o m apos) [] [] pos) (tMethS C m sp E ta tNil) := by
  refine ⟨fun pins s σ H Q I h => ?_⟩
  refine PySem.W.methodCall_KW (pl := pl) (thn (he.run pins s σ H _ I h) fun u s1 ⟨x, H1, I1, rx, a, dx, fs, ex, ea, l, q⟩ => ?_) ht
  subst ex
  obtain rfl : u = Value.ref a := rx
  refine getmeth_ok I1 ea c hm l ?_
  exact PySem.W.callWith_K0 (first := [.ref a]) I1.kIn hm.kp (run_fnS (us := [.ref a]) (vs := [.ref a]) F hr hb (hx σ) I1 (.cons rfl .nil) q)
theorem pe_callS0 (F : FnOk X.prog X.w X.K X.mg X.base CX k f fd ps sp) (hr : Room k X.A) (hg : Gl X x) (hm : X.mg x = some (.ref f)) (hk : PySem.W.keepIn X.K (.ref f) = true) (hb : Binds X.K fd ps []) (hx : ∀ σ, PassesAt CX X σ (E σ))
    (hdb : (x == ("__debug__" : Str)) = false := by decide) : PE X (.Call (.Name x p) [] [] pos) (tCallS sp E tNil) := by
  refine ⟨fun pins s σ H Q I h => ?_⟩
  refine wpAny_Call_Name_kw (ld_glob I hg hm ?_ hdb)
  exact PySem.W.callWith_K0 I.kIn hk (run_fnS (us := []) F hr hb (hx σ) I .nil h)
def tMakeS (C : Addr) (sp : Sp) (E : L2.St → XK) (t : TA) : TE := fun σ H Q => t σ H fun vs H1 => ∀ x dx, H1 x = none → H1 dx = none → dx ≠ x → sp (.ref x :: vs) (upd (upd H1 dx (.own x)) x (.ins C dx [])) (fun v H2 => v = .non ∧ Q (.ref x) H2) (E σ)
theorem run_makeS {pins : List (Addr × Obj)} {σ : L2.St} {H : Hp} {s : Shared} {Q : VK} {us : List Value} {vs : List V} (M : Mk X.K C f) (F : FnOk X.prog X.w X.K X.mg X.base CX k f fd ps sp) (hr : Room (k + 1) X.A) (hb : Binds X.K fd ps [])
    (hx : PassesAt CX X σ (E σ)) (I : Inv X pins σ H s) (r : Vals vs us)
    (h : ∀ x dx, H x = none → H dx = none → dx ≠ x → sp (.ref x :: vs) (upd (upd H dx (.own x)) x (.ins C dx [])) (fun v H2 => v = .non ∧ Q (.ref x) H2) (E σ)) :
    wpAny (model X.prog X.w) X.A (call (.ref C) us) (EP X pins σ Q) X.xe s := by
  have hq := h (s.heap.objs.size + 1) s.heap.objs.size (I.hok.fresh (Nat.le_succ _)) (I.hok.fresh (Nat.le_refl _)) (Nat.ne_of_lt (Nat.lt_succ_self _))
  have I2 := Inv.made (C := C) I
  have r2 : Vals (V.ref (s.heap.objs.size + 1) :: vs) (Value.ref (s.heap.objs.size + 1) :: us) := .cons rfl r
  have hl : ((Value.ref (s.heap.objs.size + 1) :: us) ++ []).length = ps.length := by
    have e := r2.length
    rw [F.len _ _ _ _ hq] at e
    rw [List.append_nil]
    exact e.symm
  have bb := hb _ (Value.ref (s.heap.objs.size + 1) :: us) I2.kIn hl
  rw [List.append_nil] at bb
  refine wpAny_call (make_map (f := f) I.kIn M.makes M.init (beq_iff_eq.mp M.fn) (codeAny_mono (F.run _ X.stack _ _ ⟨Value.ref (s.heap.objs.size + 1) :: us, []⟩ (Value.ref (s.heap.objs.size + 1) :: us) _ _ (E σ) (hr.make C us [])
    (I2.env0.make C us []) bb r2 hq) fun r s' hq' => ?_))
  cases r with
  | error e => exact hx pins _ _ e s' I2 hq'
  | ok fl =>
    cases fl with
    | ret u =>
      obtain ⟨v, H', I3, rv, ev, q3⟩ := I2.after hq'
      subst ev
      exact ⟨rv, ⟨V.ref (s.heap.objs.size + 1), H', I3, rfl, q3⟩⟩
    | next => exact False.elim hq'
    | brk => exact False.elim hq'
    | cont => exact False.elim hq'
theorem pe_makeSx (M : Mk X.K C f) (F : FnOk X.prog X.w X.K X.mg X.base CX k f fd ps sp) (hr : Room (k + 1) X.A) (hg : Gl X x) (hm : X.mg x = some (.ref C)) (hb : Binds X.K fd ps []) (hx : ∀ σ, PassesAt CX X σ (E σ))
    (ha : PA X (e :: es) t) (hdb : (x == ("__debug__" : Str)) = false := by decide) (he : starEach (e :: es) X.env = (false, eval e X.env) :: starEach es X.env := by exact D4.starEach_c rfl) (hpl : (backTo pos (starEach es X.env)).any (·.1) = false := by exact D4.back_any rfl) :
    PE X (.Call (.Name x p) (e :: es) [] pos) (tMakeS C sp E t) := by
  refine ⟨fun pins s σ H Q I h => ?_⟩
  refine wpAny_Call_Name_kw (ld_glob I hg hm ?_ hdb)
  refine PySem.W.callWith_K (h₀ := X.base) I.ok.mod.kin M.kp (thn (ha.run pos pins s σ H _ I h) fun us s1 ⟨vs, H1, I1, r, q⟩ => ⟨I1.kIn, ?_⟩) he hpl
  exact run_makeS M F hr hb (hx σ) I1 r q
end

section
variable {X : Cx} {b : Bs} {δ : Od} {M : Mp} {e o e1 e2 tg : Expr} {es : List Expr} {Φ : Mp → D → Prop} {Ψ : Xs} {d d1 d2 : D} {ds : List D} {pos apos cpos p : Pos} {a : Addr} {x m : Str} {k : Nat} {f : Addr} {fd : FuncData} {ps : List Str} {S : FSp}
/-- what a caller shows at a call -/
def CallS (b : Bs) (S : FSp) (M1 : Mp) (ds : List D) (Φ : Mp → D → Prop) (Ψ : Xs) : Prop := ∃ own : Addr → Prop, (∀ a, own a → Wr b a) ∧ ∀ fr : Addr → Prop, (∀ p, fr p → M1 p = none ∧ Nw b p) → S own fr M1 ds Φ Ψ
theorem CallS.pure {P : Mp → List D → D → Prop} (h : P M ds d) (q : Φ M d) : CallS b (PureS P) M ds Φ Ψ := ⟨fun _ => False, fun _ z => z.elim, fun _ _ => ⟨d, h, q⟩⟩
theorem CallS.sp (c : CallS b S M ds Φ Ψ) {K : Fg} {R : Hp → Prop} (mR : Mono R) {σ : L2.St} {H : Hp} {vs : List V} {Q : VK} {E : XK} (SH : SS K b M (RVs K σ δ R ds vs) H) (kk : ∀ M' d v H', Φ M' d → SS K b M' (RV K σ δ R d v) H' → Q v H') (kx : ∀ cls M' H', Ψ cls M' → SS K b M' (RE K σ δ R) H' → E cls none H') : spD K S vs H Q E := by
  obtain ⟨own, ho, hS⟩ := c
  obtain ⟨G, S1, z1, z2, z3⟩ := SH
  refine ⟨G, M, ds, own, Φ, Ψ, S1.sub own, z3, hS _ (fun p hp => ⟨(S1.new hp).1, (S1.new hp).2.1⟩), fun M' d v H' hΦ ⟨G', S', r⟩ => ?_, fun cls M' H' hΨ ⟨G', S', _⟩ => ?_⟩
  · exact kk M' d v H' hΦ ⟨G', S1.back S' ho, Mono.env _ _ S'.g0 z1, mR _ _ S'.g0 z2, r⟩
  · exact kx cls M' H' hΨ ⟨G', S1.back S' ho, Mono.env _ _ S'.g0 z1, mR _ _ S'.g0 z2⟩
theorem ew_call (F : FnOk X.prog X.w X.K X.mg X.base (L2.CX X.prog X.w) k f fd ps (spD X.K S)) (hr : Room k X.A) (hg : Gl X x) (hm : X.mg x = some (.ref f)) (hk : PySem.W.keepIn X.K (.ref f) = true) (hb : Binds X.K fd ps [])
    (h : EWs X b δ M (e :: es) (fun M1 ds => CallS b S M1 ds Φ Ψ) Ψ) (hdb : (x == ("__debug__" : Str)) = false := by decide) (he : starEach (e :: es) X.env = (false, eval e X.env) :: starEach es X.env := by exact D4.starEach_c rfl) (hpl : (backTo pos (starEach es X.env)).any (·.1) = false := by exact D4.back_any rfl) :
    EW X b δ M (.Call (.Name x p) (e :: es) [] pos) Φ Ψ := fun R mR σ H Q SH kk kx => by
  refine we_of (pe_callS (E := L2.WE (WXc X)) F hr hg hm hk hb (fun σ => passAt takes_wxc σ) pa_wa hdb he hpl) ?_
  exact h R mR σ H _ SH (fun M1 ds vs H1 p1 S1 => p1.sp mR S1 kk kx) kx
theorem ew_call0 (F : FnOk X.prog X.w X.K X.mg X.base (L2.CX X.prog X.w) k f fd ps (spD X.K S)) (hr : Room k X.A) (hg : Gl X x) (hm : X.mg x = some (.ref f)) (hk : PySem.W.keepIn X.K (.ref f) = true) (hb : Binds X.K fd ps [])
    (h : CallS b S M [] Φ Ψ) (hdb : (x == ("__debug__" : Str)) = false := by decide) : EW X b δ M (.Call (.Name x p) [] [] pos) Φ Ψ := fun R mR σ H Q SH kk kx => by
  refine we_of (pe_callS0 (E := L2.WE (WXc X)) F hr hg hm hk hb (fun σ => passAt takes_wxc σ) hdb) ?_
  exact h.sp mR (SH.imp fun G z => ⟨z.1, z.2, .nil⟩) kk kx
theorem ev_call {P : Mp → List D → D → Prop} (F : FnOk X.prog X.w X.K X.mg X.base (L2.CX X.prog X.w) k f fd ps (spD X.K (PureS P))) (hr : Room k X.A) (hg : Gl X x) (hm : X.mg x = some (.ref f)) (hk : PySem.W.keepIn X.K (.ref f) = true) (hb : Binds X.K fd ps [])
    (h : EVs X b δ M (e :: es) ds) (hP : P M ds d) (hdb : (x == ("__debug__" : Str)) = false := by decide) (he : starEach (e :: es) X.env = (false, eval e X.env) :: starEach es X.env := by exact D4.starEach_c rfl) (hpl : (backTo pos (starEach es X.env)).any (·.1) = false := by exact D4.back_any rfl) :
    EV X b δ M (.Call (.Name x p) (e :: es) [] pos) d := ew_call F hr hg hm hk hb (h.to (.pure hP ⟨rfl, rfl⟩)) hdb he hpl
/-! ### instances -/
variable {C dx : Addr} {fs : List (Str × D)}
def lookF (fs : List (Str × D)) (f : Str) : Option D := fs.lookup f
theorem repF_lookup {K : Fg} {G : Hp} {fs : List (Str × D)} {gs : List (Str × V)} (r : RepF K G fs gs) (f : Str) : (∀ d, lookF fs f = some d → ∃ v, gs.lookup f = some v ∧ Rep K G d v) ∧ (lookF fs f = none → gs.lookup f = none) := by
  unfold lookF
  induction r with
  | nil => exact ⟨fun d e => by simp at e, fun _ => rfl⟩
  | @cons p q l l' h t ih =>
    obtain ⟨pn, pd⟩ := p
    obtain ⟨qn, qv⟩ := q
    obtain ⟨h1, h2⟩ := h
    have h1 : qn = pn := h1
    subst h1
    by_cases e : (f == qn) = true
    · have e1 : List.lookup f ((qn, pd) :: l) = some pd := by rw [List.lookup_cons, e]
      have e2 : List.lookup f ((qn, qv) :: l') = some qv := by rw [List.lookup_cons, e]
      rw [e1, e2]
      exact ⟨fun d q => by cases q; exact ⟨_, rfl, h2⟩, fun q => by cases q⟩
    · have e' : (f == qn) = false := by simpa using e
      have e1 : List.lookup f ((qn, pd) :: l) = List.lookup f l := by rw [List.lookup_cons, e']
      have e2 : List.lookup f ((qn, qv) :: l') = List.lookup f l' := by rw [List.lookup_cons, e']
      rw [e1, e2]
      exact ih
def putFD (f : Str) (d : D) : List (Str × D) → List (Str × D)
  | [] => [(f, d)]
  | (g, v) :: r => if g = f then (g, d) :: r else (g, v) :: putFD f d r
theorem repF_put {K : Fg} {G : Hp} {fs : List (Str × D)} {gs : List (Str × V)} (r : RepF K G fs gs) (f : Str) {d : D} {v : V} (rv : Rep K G d v) : RepF K G (putFD f d fs) (putF f v gs) := by
  induction r with
  | nil => exact .cons ⟨rfl, rv⟩ .nil
  | @cons p q l l' h t ih =>
    obtain ⟨pn, pd⟩ := p
    obtain ⟨qn, qv⟩ := q
    obtain ⟨h1, h2⟩ := h
    have h1 : qn = pn := h1
    subst h1
    rw [show putFD f d ((qn, pd) :: l) = (if qn = f then (qn, d) :: l else (qn, pd) :: putFD f d l) from rfl, show putF f v ((qn, qv) :: l') = (if qn = f then (qn, v) :: l' else (qn, qv) :: putF f v l') from rfl]
    by_cases e : qn = f
    · rw [if_pos e, if_pos e]; exact .cons ⟨rfl, rv⟩ t
    · rw [if_neg e, if_neg e]; exact .cons ⟨rfl, h2⟩ ih
theorem repF_len {K : Fg} {G : Hp} {fs : List (Str × D)} {gs : List (Str × V)} (r : RepF K G fs gs) : fs.length = gs.length := by
  induction r with
  | nil => rfl
  | cons h t ih => rw [List.length_cons, List.length_cons, ih]
theorem ev_fld (h : EV X b δ M o (.loc (.ref a))) (hm : M a = some (.ins C dx fs)) (c : Cls X.K C) (n : NoAttr X.K C x) (hl : lookF fs x = some d) (hb : attributeBase o x X.env (eval o X.env) = eval o X.env := by rfl) : EV X b δ M (.Attribute o x pos) d := fun R mR σ H Q SH kk kx => by
  refine we_of (pe_fld pe_we hb) ?_
  refine h R mR σ H _ SH (fun M1 d' v H1 p1 S1 => ?_) .nx
  obtain ⟨rfl, rfl⟩ := p1
  obtain ⟨G, S1, z1, z2, z3⟩ := S1
  obtain ⟨_, ob, ho, gs, rfl, rf⟩ := S1.cel a _ hm
  obtain ⟨w, q1, q2⟩ := (repF_lookup rf x).1 d hl
  exact ⟨a, C, dx, gs, w, Rep.loc_iff.mp z3, ho, c, n, q1, kk _ _ _ _ ⟨rfl, rfl⟩ ⟨G, S1, z1, z2, q2⟩⟩
theorem sw_fld {E : DE} (h1 : EW X b δ M e (fun M1 d => EV X b δ M1 o (.loc (.ref a)) ∧ ∃ fs, M1 a = some (.ins C dx fs) ∧ fs.length < 1000 ∧ E.nx (um M1 a (.ins C dx (putFD x d fs))) δ) (fun c M' => E.xc c M' δ)) (hw : Wr b a) (c : Cls X.K C) (n : NoAttr X.K C x)
    (hs : swapsWith e (some (.Attribute o x apos)) pos.line X.env = pure false := by rfl) : SW X b δ M (.Assign [.Attribute o x apos] e pos) E := fun R mR σ H SH kx => by
  refine ws_of (ps_fld pe_we pe_we hs) ?_
  refine h1 R mR σ H _ SH (fun M1 d v H1 p1 S1 => ?_) kx.kx
  obtain ⟨ho, fs, hm, hl, hE⟩ := p1
  refine ho (fun G => R G ∧ Rep X.K G d v) (mR.and .rep) σ H1 _ S1 (fun M2 d' w H2 p2 S2 => ?_) .nx
  obtain ⟨rfl, rfl⟩ := p2
  obtain ⟨G, S2, z1, z2, z3⟩ := S2
  obtain ⟨_, ob, ho, gs, rfl, rf⟩ := S2.cel a _ hm
  exact ⟨a, C, dx, gs, Rep.loc_iff.mp z3, ho, c, n, by rw [← repF_len rf]; exact hl, _, δ, hE, G, S2.set hm hw ⟨_, rfl, repF_put rf x z2.2⟩, z1, z2.1⟩
theorem ew_meth {pl : Sem Bool} (F : FnOk X.prog X.w X.K X.mg X.base (L2.CX X.prog X.w) k f fd ps (spD X.K S)) (hr : Room k X.A) (c : Cls X.K C) (hme : Meth X.K C m f) (hb : Binds X.K fd ps [])
    (h1 : EV X b δ M o (.loc (.ref a))) (hm : M a = some (.ins C dx fs)) (hl : lookF fs m = none) (h : EWs X b δ M (e :: es) (fun M1 ds => CallS b S M1 (.loc (.ref a) :: ds) Φ Ψ) Ψ)
    (hst : starEach (e :: es) X.env = (false, eval e X.env) :: starEach es X.env := by exact D4.starEach_c rfl) (hpl : (backTo pos (starEach es X.env)).any (·.1) = false := by exact D4.back_any rfl)
    (ht : eval (.Call (.Attribute o m apos) (e :: es) [] pos) X.env = (do
      let ov ← eval o X.env
      standAt apos.atName
      let (f, first) ← holding [ov] (getMethod ov m pl)
      callWith pos f first (backTo pos (starEach (e :: es) X.env)) (backToKw pos (keywordEach [] X.env))) := by rfl) :
    EW X b δ M (.Call (.Attribute o m apos) (e :: es) [] pos) Φ Ψ := fun R mR σ H Q SH kk kx => by
  refine we_of (pe_methSx (E := L2.WE (WXc X)) (pl := pl) pe_we c hme F hr hb (fun σ => passAt takes_wxc σ) pa_wa hst hpl ht) ?_
  refine h1 R mR σ H _ SH (fun M1 d' v H1 p1 S1 => ?_) .nx
  obtain ⟨rfl, rfl⟩ := p1
  obtain ⟨G, S1', z1, z2, z3⟩ := id S1
  obtain ⟨_, ob, ho, gs, rfl, rf⟩ := S1'.cel a _ hm
  refine ⟨a, dx, gs, Rep.loc_iff.mp z3, ho, (repF_lookup rf m).2 hl, ?_⟩
  rw [Rep.loc_iff] at z3
  subst z3
  refine h R mR σ H1 _ (S1.imp fun G z => ⟨z.1, z.2.1⟩) (fun M2 ds vs H2 p2 S2 => ?_) kx
  exact p2.sp (vs := .ref a :: vs) mR (S2.imp fun G z => ⟨z.1, z.2.1, .cons (Rep.loc_iff.mpr rfl) z.2.2⟩) kk kx
theorem ew_meth0 {pl : Sem Bool} (F : FnOk X.prog X.w X.K X.mg X.base (L2.CX X.prog X.w) k f fd ps (spD X.K S)) (hr : Room k X.A) (c : Cls X.K C) (hme : Meth X.K C m f) (hb : Binds X.K fd ps [])
    (h1 : EV X b δ M o (.loc (.ref a))) (hm : M a = some (.ins C dx fs)) (hl : lookF fs m = none) (h : CallS b S M [.loc (.ref a)] Φ Ψ)
    (ht : eval (.Call (.Attribute o m apos) [] [] pos) X.env = (do
      let ov ← eval o X.env
      standAt apos.atName
      let (f, first) ← holding [ov] (getMethod ov m pl)
      callWith pos f first (backTo pos (starEach [] X.env)) (backToKw pos (keywordEach [] X.env))) := by rfl) :
    EW X b δ M (.Call (.Attribute o m apos) [] [] pos) Φ Ψ := fun R mR σ H Q SH kk kx => by
  refine we_of (pe_methSx0 (E := L2.WE (WXc X)) (pl := pl) pe_we c hme F hr hb (fun σ => passAt takes_wxc σ) ht) ?_
  refine h1 R mR σ H _ SH (fun M1 d' v H1 p1 S1 => ?_) .nx
  obtain ⟨rfl, rfl⟩ := p1
  obtain ⟨G, S1', z1, z2, z3⟩ := id S1
  obtain ⟨_, ob, ho, gs, rfl, rf⟩ := S1'.cel a _ hm
  refine ⟨a, dx, gs, Rep.loc_iff.mp z3, ho, (repF_lookup rf m).2 hl, ?_⟩
  rw [Rep.loc_iff] at z3
  subst z3
  exact h.sp (vs := [.ref a]) mR (S1.imp fun G z => ⟨z.1, z.2.1, .cons (Rep.loc_iff.mpr rfl) .nil⟩) kk kx
end

/-! ### a def of the text -/
section
variable {P : Program} {w : World} {K : Fg} {mg : Str → Option Value} {base : Heap}
/-- a def keeps its promise over data: its body walked -/
theorem fnD {x qual : Str} {st : Stmt} {f : Addr} {fd : FuncData} {N ps : List Str} {k : Nat} {S : FSp} (F : Fun K x qual st f fd) (sc : FnScope N ps (defScope st)) (len : ∀ own fr M ds Φ Ψ, S own fr M ds Φ Ψ → ds.length = ps.length)
    (hbody : ∀ (cdv : Value) (A : Around) (outer : List PySem.Env) (s : Shared) (H : Hp) (E : XK), Room k (cxOf (L2.CX P w) P w K mg base N qual (defScope st) f cdv A outer s H E).A →
      ∀ (b : Bs) (M : Mp) (ds : List D) (Φ : Mp → D → Prop) (Ψ : Xs) (fr : Addr → Prop), (∀ p, fr p ↔ Nw b p) → S b.own fr M ds Φ Ψ →
        SWs (cxOf (L2.CX P w) P w K mg base N qual (defScope st) f cdv A outer s H E) b (ds.map some ++ List.replicate (N.length - ds.length) none) M (defBody st) ⟨fun M _ => Φ M .non, Φ, fun _ _ => False, fun _ _ => False, fun c M _ => Ψ c M⟩) :
    FnOk P w K mg base (L2.CX P w) (k + 1) f fd ps (spD K S) := by
  refine F.okX sc (fun vs H Q E h => ?_) (fun cdv A outer s H vs Q E hr h => ⟨WSs _ (defBody st), pss_wss, ?_⟩)
  · obtain ⟨G, M, ds, own, Φ, Ψ, S1, r, hS, _⟩ := h
    rw [← r.length]
    exact len _ _ _ _ _ _ hS
  · obtain ⟨G, M, ds, own, Φ, Ψ, S1, r, hS, kk, kx⟩ := h
    have hb := hbody cdv A outer s H E hr ⟨G, H, own⟩ M ds Φ Ψ (fun p => H p = none) (fun p => Iff.rfl) hS
    refine (hb (fun _ => True) .tt (L2.start N vs) H ⟨G, S1, ?_, trivial⟩ ?_).mono (fun σ' H' ⟨M', δ', q, S'⟩ => ?_) (fun v H' ⟨M', d, q, S'⟩ => ?_) (fun _ _ ⟨_, _, z, _⟩ => z.elim) (fun _ _ ⟨_, _, z, _⟩ => z.elim)
    · unfold L2.start
      refine ⟨by simp [r.length], fun i d e => ?_⟩
      by_cases hi : i < ds.length
      · rw [List.getElem?_append_left (by simpa using hi), List.getElem?_map] at e
        cases q : ds[i]? with
        | none => rw [q] at e; cases e
        | some d' =>
          rw [q] at e
          cases e
          obtain ⟨v, h1, h2⟩ := r.get q
          exact ⟨v, by rw [List.getElem?_append_left (by simpa [← r.length] using hi), List.getElem?_map, h1] <;> rfl, h2⟩
      · rw [List.getElem?_append_right (by simpa using hi), List.getElem?_replicate] at e
        split at e <;> cases e
    · intro cls M' δ' σ' H' q S'
      refine wxc_of (W := fun cls d _ H => E cls d H) (takes_of rfl rfl rfl rfl) ?_
      exact kx cls M' H' q (S'.imp fun _ _ => trivial)
    · exact kk M' .non .non H' q (S'.imp fun G z => Rep.non_iff.mpr rfl)
    · exact kk M' d v H' q S'
end
end D4
end

section
set_option maxRecDepth 100000
set_option maxHeartbeats 4000000
/-! D4g: comprehensions; list and tuple operations. -/
namespace D4
open PySem L2

def setAll : L2.St → List Nat → List V → L2.St
  | σ, j :: js, v :: vs => setAll (σ.set j (some v)) js vs
  | σ, _, _ => σ
def setD : Od → List Nat → List D → Od
  | δ, j :: js, d :: ds => setD (δ.set j (some d)) js ds
  | δ, _, _ => δ
def wD (δ : Od) : List Nat → Od
  | [] => δ
  | v :: vs => (wD δ vs).set v none
theorem Env.setAll {K : Fg} {G : Hp} : ∀ {js : List Nat} {ds : List D} {vs : List V} {σ : L2.St} {δ : Od}, Env K G σ δ → Reps K G ds vs → Env K G (setAll σ js vs) (setD δ js ds)
  | [], ds, vs, σ, δ, h, r => by
    have e1 : D4.setAll σ [] vs = σ := by cases vs <;> rfl
    have e2 : setD δ [] ds = δ := by cases ds <;> rfl
    rw [e1, e2]; exact h
  | j :: js, [], vs, σ, δ, h, r => by rw [r.nil_inv]; exact h
  | j :: js, d :: ds, vs, σ, δ, h, r => by
    obtain ⟨v, r', e, h1, t⟩ := r.cons_inv
    subst e
    show Env K G (D4.setAll (σ.set j (some v)) js r') (setD (δ.set j (some d)) js ds)
    exact Env.setAll (D4.Env.set j h h1) t
theorem Env.wipe {K : Fg} {G : Hp} {σ : L2.St} {δ : Od} (h : Env K G σ δ) : ∀ vs : List Nat, Env K G (wipe σ vs) (wD δ vs)
  | [] => h
  | v :: vs => (Env.wipe h vs).forget v
theorem wipe_len (σ : L2.St) : ∀ vs : List Nat, (wipe σ vs).length = σ.length := wipe_length σ
theorem wipe_get (σ : L2.St) : ∀ (vs : List Nat) (i : Nat), (wipe σ vs)[i]? = if i ∈ vs ∧ i < σ.length then some none else σ[i]?
  | [], i => by simp [wipe]
  | v :: vs, i => by
    show ((wipe σ vs).set v none)[i]? = _
    by_cases h : v = i
    · subst h
      by_cases hl : v < σ.length
      · rw [List.getElem?_set_self (by rw [wipe_len]; exact hl), if_pos ⟨List.mem_cons_self, hl⟩]
      · rw [List.getElem?_eq_none (by rw [List.length_set, wipe_len]; omega), if_neg (fun z => hl z.2), List.getElem?_eq_none (by omega)]
    · rw [List.getElem?_set_ne h, wipe_get σ vs i]
      by_cases hm : i ∈ vs ∧ i < σ.length
      · rw [if_pos hm, if_pos ⟨List.mem_cons_of_mem _ hm.1, hm.2⟩]
      · rw [if_neg hm, if_neg]
        rintro ⟨h1, h2⟩
        rcases List.mem_cons.mp h1 with h1 | h1
        · exact h h1.symm
        · exact hm ⟨h1, h2⟩
theorem setAll_len : ∀ (js : List Nat) (vs : List V) (σ : L2.St), (setAll σ js vs).length = σ.length
  | [], vs, σ => by cases vs <;> rfl
  | j :: js, [], σ => rfl
  | j :: js, v :: vs, σ => by
    show (setAll (σ.set j (some v)) js vs).length = _
    rw [setAll_len, List.length_set]
theorem setAll_get : ∀ (js : List Nat) (vs : List V) (σ : L2.St) (i : Nat), i ∉ js → (setAll σ js vs)[i]? = σ[i]?
  | [], vs, σ, i, _ => by cases vs <;> rfl
  | j :: js, [], σ, i, _ => rfl
  | j :: js, v :: vs, σ, i, h => by
    show (setAll (σ.set j (some v)) js vs)[i]? = _
    rw [setAll_get js vs _ i fun z => h (List.mem_cons_of_mem _ z), List.getElem?_set_ne fun z => h (by rw [z]; exact List.mem_cons_self)]
theorem wipe_set {σ : L2.St} {vs js : List Nat} {ws : List V} (h : ∀ j ∈ js, j ∈ vs) : wipe (setAll (wipe σ vs) js ws) vs = wipe σ vs := by
  apply List.ext_getElem?
  intro i
  rw [wipe_get, setAll_len, wipe_len, wipe_get]
  by_cases hm : i ∈ vs ∧ i < σ.length
  · rw [if_pos hm, if_pos hm]
  · rw [if_neg hm, if_neg hm]
    by_cases hj : i ∈ js
    · have hl : ¬ i < σ.length := fun z => hm ⟨h i hj, z⟩
      rw [List.getElem?_eq_none (by rw [setAll_len, wipe_len]; omega), List.getElem?_eq_none (by omega)]
    · rw [setAll_get js ws _ i hj, wipe_get, if_neg hm]

/-- a target's slots and what they get -/
def GS (X : Cx) (tg : Expr) (d : D) (js : List Nat) (ds : List D) : Prop := ∃ g : TG, PG X tg g ∧ ∀ (v : V) (σ : L2.St) (H G : Hp) (Q : L2.St → Hp → Prop), Same G H → Rep X.K G d v → (∀ ws, Reps X.K G ds ws → Q (setAll σ js ws) H) → g v σ H Q
def GSs (X : Cx) (ts : List Expr) (js : List Nat) : Prop := ∃ g : TGs, PGs X ts g ∧ ∀ (vs : List V) (σ : L2.St) (H : Hp) (Q : L2.St → Hp → Prop), vs.length = js.length → Q (setAll σ js vs) H → g vs σ H Q
section
variable {X : Cx} {b : Bs} {δ : Od} {M : Mp} {e o e1 e2 tg iter elt : Expr} {es ts ifs : List Expr} {Φ : Mp → D → Prop} {Ψ : Xs} {d d1 d2 : D} {ds : List D} {pos p : Pos} {a : Addr} {x : Str}
theorem gs_name (i : Nat) {x : Str} (hN : X.N.Nodup) (hi : X.N[i]? = some x := by rfl) (hx : Loc X.env.scope x := by first | exact Or.inl rfl | exact Or.inr rfl)
    (hf : X.fn x = true ∨ X.env.scope.names.lookup x = some .local := by first | exact Or.inl rfl | exact Or.inr rfl) : GS X (.Name x pos) d [i] [d] :=
  ⟨gName i, pg_name (i := i) hN hi hx hf, fun v σ H G Q e r k => k [v] (.cons r .nil)⟩
theorem gss_nil : GSs X [] [] := ⟨gNil, pgs_nil, fun vs σ H Q hl q => by
  have e : vs = [] := List.eq_nil_of_length_eq_zero hl
  subst e
  exact ⟨rfl, q⟩⟩
theorem gss_cons (i : Nat) {js : List Nat} {x : Str} (hN : X.N.Nodup) (t : GSs X es js) (hi : X.N[i]? = some x := by rfl) (hx : Loc X.env.scope x := by first | exact Or.inl rfl | exact Or.inr rfl)
    (hf : X.fn x = true ∨ X.env.scope.names.lookup x = some .local := by first | exact Or.inl rfl | exact Or.inr rfl)
    (hs : (assignEach (.Name x pos :: es) X.env).map (·.2) = assign (.Name x pos) X.env :: (assignEach es X.env).map (·.2) := by rfl) : GSs X (.Name x pos :: es) (i :: js) := by
  obtain ⟨g, pg, hg⟩ := t
  refine ⟨gCons (gName i) g, pgs_cons (pg_name (i := i) hN hi hx hf) pg hs, fun vs σ H Q hl q => ?_⟩
  cases vs with
  | nil => cases hl
  | cons v vs => exact ⟨v, vs, rfl, hg vs _ H Q (Nat.succ.inj hl) q⟩
theorem gs_tup {js : List Nat} {k : Nat} (hc : X.calm = true) (t : GSs X ts js) (hl : js.length = ds.length := by rfl) (hn : (assignEach ts X.env).length = ds.length := by rfl) (hst : (assignEach ts X.env).findIdx? (·.1) = none := by rfl) : GS X (.Tuple ts k pos) (.tup ds) js ds := by
  obtain ⟨g, pg, hg⟩ := t
  refine ⟨gTup X.K ds.length g, pg_tup (n := ds.length) hc pg hn hst, fun v σ H G Q e r k => ?_⟩
  obtain ⟨a, vs, ev, ha, rs⟩ := Rep.tup_iff.mp r
  exact ⟨a, vs, ev, SqT.of (e _ _ ha), rs.length.symm, hg vs σ H Q (by rw [hl, rs.length]) (k vs rs)⟩

/-! ### tests of a comprehension -/
def WTs (X : Cx) (ifs : List Expr) : TT := fun σ H Q => ∀ (pins : List (Addr × Obj)) (s : Shared), Inv X pins σ H s → ∃ t : TT, PTs X ifs t ∧ t σ H Q
/-- the block's contexts -/
abbrev Blk (X : Cx) (scope : Scope) (s : Shared) (H : Hp) (Cc : Addr) (cl : List (Str × Addr)) (fp : List Addr) : Cx := X.blk s H scope (compEnvC scope cl Cc X.env) fp
/-- one turn of a comprehension: from the cells M (the new list among them) -/
def TurnC (X : Cx) (scope : Scope) (b : Bs) (δ : Od) (M : Mp) (ifs : List Expr) (elt : Expr) (Ye : Mp → D → Prop) (No : Mp → Prop) : Prop :=
  match ifs with
  | [] => ∀ s' H' Cc cl fp, EW (Blk X scope s' H' Cc cl fp) b δ M elt Ye NX
  | [c] => ∃ t : Bool, (∀ s' H' Cc cl fp, TV (Blk X scope s' H' Cc cl fp) b δ M c t) ∧ (t = true → ∀ s' H' Cc cl fp, EW (Blk X scope s' H' Cc cl fp) b δ M elt Ye NX) ∧ (t = false → No M)
  | _ => False
/-- a test list's reading in all the contexts of a block -/
def tTs (X : Cx) (scope : Scope) (ifs : List Expr) : TT := match ifs with
  | [] => tYes
  | [c] => fun σ H Q => ∀ s' H' Cc cl fp, WT (Blk X scope s' H' Cc cl fp) c σ H Q
  | _ => fun _ _ _ => False
theorem pts_tTs {scope : Scope} (s' : Shared) (H' : Hp) (Cc : Addr) (cl : List (Str × Addr)) (fp : List Addr) (hif : ifs.length ≤ 1) : PTs (Blk X scope s' H' Cc cl fp) ifs (tTs X scope ifs) := by
  match ifs, hif with
  | [], _ => exact pts_nil
  | [c], _ => exact pts_one ⟨fun pins s σ H Q I h => (h s' H' Cc cl fp).run pins s I⟩
def gB (X : Cx) (scope : Scope) (tg : Expr) : TG := fun v σ H Q => ∀ s' H' Cc cl fp, WG (Blk X scope s' H' Cc cl fp) tg v σ H Q
def tEB (X : Cx) (scope : Scope) (elt : Expr) : TE := fun σ H Q => ∀ s' H' Cc cl fp, WE (Blk X scope s' H' Cc cl fp) elt σ H Q
theorem lc_read {scope : Scope} {own : List (Str × Nat)} {Qd : Addr → Mp → Prop} (hif : ifs.length ≤ 1) {R : Hp → Prop} (mR : Mono R) {σ : L2.St} {H : Hp} {Q : VK}
    (h : IW X b δ M tg iter (fun M1 CM ds => ∀ Dl, M1 Dl = none → Nw b Dl → ∃ I : Nat → List D → Mp → Prop, I 0 [] (um M1 Dl (.lst [])) ∧ (∀ i acc M', I i acc M' → M' Dl = some (.lst acc) ∧ CM M' ∧ acc.length ≤ i) ∧ ds.length ≤ 100000 ∧
      (∀ i d acc M', ds[i]? = some d → I i acc M' → ∃ (js : List Nat) (gs : List D), (∀ j ∈ js, j ∈ own.map (·.2)) ∧ (∀ s' H' Cc cl fp, GS (Blk X scope s' H' Cc cl fp) tg d js gs) ∧
        TurnC X scope b (setD (wD δ (own.map (·.2))) js gs) M' ifs elt (fun M3 y => M3 Dl = some (.lst acc) ∧ I (i + 1) (acc ++ [y]) (um M3 Dl (.lst (acc ++ [y])))) (fun M2 => I (i + 1) acc M2)) ∧
      ∀ acc M', I ds.length acc M' → Qd Dl M') Ψ)
    (SH : SS X.K b M (RE X.K σ δ R) H) (hQ : ∀ Dl M' H', Qd Dl M' → Nw b Dl → SS X.K b M' (RE X.K σ δ R) H' → Q (.ref Dl) H') (kx : KX X b δ R σ Ψ) : tLc (WI X tg iter) (gB X scope tg) (tTs X scope ifs) (tEB X scope elt) (own.map (·.2)) σ H Q := by
  refine h R mR σ H _ SH (fun M1 CM ds H1 J R1 p mR1 hR S1 w => ?_) kx
  intro Dl hDl
  obtain ⟨G1, S1', z1⟩ := S1
  obtain ⟨n1, n2, n3⟩ := S1'.new hDl
  obtain ⟨I, h0, hcm, hlen, hst, hd⟩ := p Dl n1 n2
  obtain ⟨Gd, Y, hw, hG, hY⟩ := w
  refine lc_it (g := gB X scope tg) (tt := tTs X scope ifs) (te := tEB X scope elt) (vs := own.map (·.2)) (σ := σ) (Qd := fun H' => Q (.ref Dl) H') hw (fun i H' => ∃ acc M', I i acc M' ∧ SS X.K b M' (RE X.K σ δ R1) H') ⟨[], _, h0, G1, S1'.cell (c := .lst []) hDl ⟨[], rfl, .nil⟩, z1⟩
    (fun i H' _ ⟨acc, M', p, S'⟩ => hG M' H' (hcm i acc M' p).2.1 (S'.imp fun G z => z.2)) (fun i x H' H'' hi ⟨acc, M', p, S'⟩ y => ?_) (fun H' ⟨acc, M', p, S'⟩ => hQ Dl M' H' (hd acc M' p) n2 (S'.imp fun G z => ⟨z.1, hR G z.2⟩))
  have hi' : ds[i]? = some ds[i] := by simp [hi]
  have S2 := hY i ds[i] x M' (fun G => Env X.K G σ δ) H' H'' Mono.env hi' (hcm i acc M' p).2.1 S' y
  obtain ⟨js, gs, hjs, htg, hturn⟩ := hst i ds[i] acc M' hi' p
  intro s' Hb Cc cl fp
  obtain ⟨g, pg, hg⟩ := htg s' Hb Cc cl fp
  refine wg_of pg ?_
  obtain ⟨G2, S2', y1, y2, y3⟩ := S2
  refine hg x _ H'' G2 _ S2'.gh y3 fun ws rws => ?_
  refine ⟨wipe_set hjs, ?_⟩
  have mE : Mono (fun G => Env X.K G σ δ ∧ R1 G) := Mono.env.and mR1
  have S3 : SS X.K b M' (RE X.K (setAll (wipe σ (own.map (·.2))) js ws) (setD (wD δ (own.map (·.2))) js gs) (fun G => Env X.K G σ δ ∧ R1 G)) H'' := ⟨G2, S2', Env.setAll (y1.wipe _) rws, y1, y2⟩
  have step : ∀ M2 H3, (∀ s' H' Cc cl fp, EW (Blk X scope s' H' Cc cl fp) b (setD (wD δ (own.map (·.2))) js gs) M2 elt (fun M3 y => M3 Dl = some (.lst acc) ∧ I (i + 1) (acc ++ [y]) (um M3 Dl (.lst (acc ++ [y])))) NX) →
      SS X.K b M2 (RE X.K (setAll (wipe σ (own.map (·.2))) js ws) (setD (wD δ (own.map (·.2))) js gs) (fun G => Env X.K G σ δ ∧ R1 G)) H3 →
      ∀ s' H' Cc cl fp, WE (Blk X scope s' H' Cc cl fp) elt (setAll (wipe σ (own.map (·.2))) js ws) H3 fun y H4 => ∃ acc, H4 Dl = some (.lst acc) ∧ acc.length < sizeLine ∧ ∃ acc' M', I (i + 1) acc' M' ∧ SS X.K b M' (RE X.K σ δ R1) (upd H4 Dl (.lst (acc ++ [y]))) := by
    intro M2 H3 he S4 s' Hb Cc cl fp
    refine he s' Hb Cc cl fp _ mE _ H3 _ S4 (fun M3 d v H4 q S5 => ?_) .nx
    obtain ⟨q1, q2⟩ := q
    obtain ⟨G5, S5, w1, w2, w3⟩ := S5
    obtain ⟨_, ob, ho, vs, rfl, rs⟩ := S5.cel Dl _ q1
    refine ⟨vs, ho, ?_, _, _, q2, G5, S5.set q1 n2.wr ⟨_, rfl, rs.append (.cons w3 .nil)⟩, w2.1, w2.2⟩
    have := (hcm i acc M' p).2.2
    rw [← rs.length]
    exact Nat.lt_of_lt_of_le (show acc.length < 100001 by omega) (by decide)
  match ifs, hif, hturn with
  | [], _, hturn =>
    exact step M' H'' hturn S3
  | [c], _, hturn =>
    obtain ⟨t, ht, h1, h2⟩ := hturn
    intro s' Hb Cc cl fp
    refine ht s' Hb Cc cl fp _ mE _ H'' _ S3 (fun M2 t' H3 q S4 => ?_) .nx
    obtain ⟨rfl, rfl⟩ := q
    cases t with
    | true => exact iteT (step M' H3 (h1 rfl) S4)
    | false => exact iteF ⟨acc, M', h2 rfl, S4.imp fun G z => z.2⟩

/-- a pure turn -/
def TurnP (X : Cx) (scope : Scope) (b : Bs) (δ : Od) (M : Mp) (ifs : List Expr) (elt : Expr) (t : Bool) (f : D) : Prop :=
  match ifs with
  | [] => t = true ∧ ∀ s' H' Cc cl fp, EV (Blk X scope s' H' Cc cl fp) b δ M elt f
  | [c] => (∀ s' H' Cc cl fp, TV (Blk X scope s' H' Cc cl fp) b δ M c t) ∧ (t = true → ∀ s' H' Cc cl fp, EV (Blk X scope s' H' Cc cl fp) b δ M elt f)
  | _ => False
/-- more cells -/
def Sub (M M' : Mp) : Prop := ∀ a c, M a = some c → M' a = some c
theorem Sub.refl {M : Mp} : Sub M M := fun _ _ h => h
theorem Sub.um {M : Mp} {a : Addr} {c : C} (h : M a = none) : Sub M (um M a c) := fun x c' e => um_old e h
theorem Sub.trans {M M1 M2 : Mp} (a : Sub M M1) (b : Sub M1 M2) : Sub M M2 := fun x c h => b x c (a x c h)
/-- fewer cells are told -/
theorem EW.less {Φ : Mp → D → Prop} (h : EW X b δ M e (fun M' d => ∃ M'', Sub M'' M' ∧ Φ M'' d) Ψ) : EW X b δ M e Φ Ψ := fun R mR σ H Q SH k kx => h R mR σ H Q SH (fun M' d v H' ⟨M'', hs, p⟩ ⟨G, S', z⟩ => k M'' d v H' p ⟨G, S'.less hs, z⟩) kx
/-- what a pure comprehension asks -/
def LcP (X : Cx) (b : Bs) (δ : Od) (M : Mp) (scope : Scope) (own : List (Str × Nat)) (tg iter : Expr) (ifs : List Expr) (elt : Expr) {α : Type} (xs : List α) (enc : α → D) (t : α → Bool) (f : α → D) (js : List Nat) (g : α → List D) (Φ : Mp → List D → Prop) (Ψ : Xs) : Prop :=
  IW X b δ M tg iter (fun M1 CM ds => ds = xs.map enc ∧ xs.length ≤ 100000 ∧ (∀ M2, Sub M1 M2 → CM M2) ∧ (∀ x ∈ xs, ∀ s' H' Cc cl fp, GS (Blk X scope s' H' Cc cl fp) tg (enc x) js (g x)) ∧
    (∀ x ∈ xs, ∀ M2, Sub M1 M2 → TurnP X scope b (setD (wD δ (own.map (·.2))) js (g x)) M2 ifs elt (t x) (f x)) ∧ Φ M1 ((xs.filter t).map f)) Ψ
theorem take_snoc {α : Type} {xs : List α} {i : Nat} {x : α} (h : xs[i]? = some x) : xs.take (i + 1) = xs.take i ++ [x] := by
  rw [List.take_add_one, h]; rfl
theorem LcP.read {scope : Scope} {own : List (Str × Nat)} {α : Type} {xs : List α} {enc : α → D} {t : α → Bool} {f : α → D} {js : List Nat} {g : α → List D} {Φ : Mp → List D → Prop} (hif : ifs.length ≤ 1) (hjs : ∀ j ∈ js, j ∈ own.map (·.2))
    (h : LcP X b δ M scope own tg iter ifs elt xs enc t f js g Φ Ψ) {R : Hp → Prop} (mR : Mono R) {σ : L2.St} {H : Hp} {Q : VK} (SH : SS X.K b M (RE X.K σ δ R) H) (kx : KX X b δ R σ Ψ)
    (hQ : ∀ Dl M1 out H', Φ M1 out → M1 Dl = none → Nw b Dl → SS X.K b (um M1 Dl (.lst out)) (RE X.K σ δ R) H' → Q (.ref Dl) H') : tLc (WI X tg iter) (gB X scope tg) (tTs X scope ifs) (tEB X scope elt) (own.map (·.2)) σ H Q := by
  refine lc_read (Qd := fun Dl M' => ∃ M1 out, Φ M1 out ∧ M1 Dl = none ∧ M' = um M1 Dl (.lst out)) hif mR (fun R' mR' σ' H' Q' S' k' kx' => h R' mR' σ' H' Q' S' (fun M1 CM ds H1 J R1 p => ?_) kx') SH (fun Dl M' H' ⟨M1, out, p, q, e⟩ n S' => hQ Dl M1 out H' p q n (e ▸ S')) kx
  obtain ⟨hds, hlen, hCM, htg, hturn, hΦ⟩ := p
  subst hds
  refine k' M1 CM _ H1 J R1 fun Dl n1 n2 => ?_
  refine ⟨fun i acc M' => acc = ((xs.take i).filter t).map f ∧ M' = um M1 Dl (.lst acc), ⟨by simp, rfl⟩, ?_, by rw [List.length_map]; exact hlen, ?_, ?_⟩
  · rintro i acc M' ⟨e1, e2⟩
    refine ⟨by rw [e2, um_same], by rw [e2]; exact hCM _ (Sub.um n1), ?_⟩
    rw [e1, List.length_map]
    exact Nat.le_trans (List.length_filter_le _ _) (by rw [List.length_take]; omega)
  · rintro i d acc M' hd ⟨e1, e2⟩
    rw [List.getElem?_map] at hd
    cases hx : xs[i]? with
    | none => rw [hx] at hd; cases hd
    | some x =>
      rw [hx] at hd
      cases hd
      have hmem : x ∈ xs := List.mem_of_getElem? hx
      refine ⟨js, g x, hjs, htg x hmem, ?_⟩
      have ht := hturn x hmem M' (by rw [e2]; exact Sub.um n1)
      have hM : M' Dl = some (.lst acc) := by rw [e2, um_same]
      have yes : t x = true → um M' Dl (.lst (acc ++ [f x])) = um M1 Dl (.lst (acc ++ [f x])) ∧ acc ++ [f x] = ((xs.take (i + 1)).filter t).map f := fun hx' => by
        refine ⟨by rw [e2, um_um], ?_⟩
        rw [take_snoc hx, List.filter_append, List.map_append, ← e1, List.filter_cons, if_pos hx']
        rfl
      have no : t x = false → acc = ((xs.take (i + 1)).filter t).map f := fun hx' => by
        rw [take_snoc hx, List.filter_append, List.map_append, ← e1, List.filter_cons, if_neg (by rw [hx']; decide)]
        simp
      match ifs, hif, ht with
      | [], _, ht =>
        intro s' H' Cc cl fp
        exact (ht.2 s' H' Cc cl fp).to ⟨hM, (yes ht.1).2, (yes ht.1).1⟩
      | [c], _, ht =>
        exact ⟨t x, ht.1, fun hx' s' H' Cc cl fp => (ht.2 hx' s' H' Cc cl fp).to ⟨hM, (yes hx').2, (yes hx').1⟩, fun hx' => ⟨no hx', e2⟩⟩
  · rintro acc M' ⟨e1, e2⟩
    rw [List.length_map, List.take_length] at e1
    exact ⟨M1, acc, by rw [e1]; exact hΦ, n1, e2⟩
/-- a comprehension's list, frozen -/
theorem ew_lc {scope : Scope} {own : List (Str × Nat)} {α : Type} {xs : List α} {enc : α → D} {t : α → Bool} {f : α → D} {js : List Nat} {g : α → List D} (hc : X.calm = true) (hN : X.N.Nodup) (ok : BlkOk X.N X.env.scope scope own)
    (h : LcP X b δ M scope own tg iter ifs elt xs enc t f js g (fun M1 out => Φ M1 (.lst out)) Ψ) (hif : ifs.length ≤ 1 := by decide) (hjs : ∀ j ∈ js, j ∈ own.map (·.2) := by decide) (hs : ∀ x, foldedSetIterable iter X.env x = pure x := by exact fun _ => rfl) : EW X b δ M (.ListComp elt [⟨tg, iter, ifs, 0⟩] scope pos) Φ Ψ := fun R mR σ H Q SH k kx => by
  refine we_of (pe_lc (g := gB X scope tg) (tt := tTs X scope ifs) (te := tEB X scope elt) hc hN pi_wi ok
    (fun s' H' Cc cl fp => ⟨fun pins s σ H v u Q I r h => (h s' H' Cc cl fp).run pins s u I r⟩) (fun s' H' Cc cl fp => pts_tTs s' H' Cc cl fp hif) (fun s' H' Cc cl fp => ⟨fun pins s σ H Q I h => (h s' H' Cc cl fp).run pins s I⟩) hs) ?_
  refine h.read hif hjs mR SH kx fun Dl M1 out H' p n1 n2 ⟨G, S', z⟩ => ?_
  obtain ⟨G', S2, sg, r⟩ := S'.freeze (p := Dl) um_same n2
  rw [dm_um n1] at S2
  exact k M1 _ _ H' p ⟨G', S2, Mono.env _ _ sg z.1, mR _ _ sg z.2, r⟩
/-- .. that may change -/
theorem ew_lcN {scope : Scope} {own : List (Str × Nat)} {α : Type} {xs : List α} {enc : α → D} {t : α → Bool} {f : α → D} {js : List Nat} {g : α → List D} (hc : X.calm = true) (hN : X.N.Nodup) (ok : BlkOk X.N X.env.scope scope own)
    (h : LcP X b δ M scope own tg iter ifs elt xs enc t f js g (fun M1 out => ∀ p, M1 p = none → Nw b p → Φ (um M1 p (.lst out)) (.loc (.ref p))) Ψ) (hif : ifs.length ≤ 1 := by decide) (hjs : ∀ j ∈ js, j ∈ own.map (·.2) := by decide) (hs : ∀ x, foldedSetIterable iter X.env x = pure x := by exact fun _ => rfl) : EW X b δ M (.ListComp elt [⟨tg, iter, ifs, 0⟩] scope pos) Φ Ψ := fun R mR σ H Q SH k kx => by
  refine we_of (pe_lc (g := gB X scope tg) (tt := tTs X scope ifs) (te := tEB X scope elt) hc hN pi_wi ok
    (fun s' H' Cc cl fp => ⟨fun pins s σ H v u Q I r h => (h s' H' Cc cl fp).run pins s u I r⟩) (fun s' H' Cc cl fp => pts_tTs s' H' Cc cl fp hif) (fun s' H' Cc cl fp => ⟨fun pins s σ H Q I h => (h s' H' Cc cl fp).run pins s I⟩) hs) ?_
  refine h.read hif hjs mR SH kx fun Dl M1 out H' p n1 n2 S' => ?_
  exact k _ _ _ H' (p Dl n1 n2) (S'.imp fun G z => ⟨z.1, z.2, Rep.loc_iff.mpr rfl⟩)
/-- name = [..] on one line -/
theorem sw_setLc (i : Nat) {y : Str} {py spos : Pos} {E : DE} {scope : Scope} {own : List (Str × Nat)} {α : Type} {xs : List α} {enc : α → D} {t : α → Bool} {f : α → D} {js : List Nat} {g : α → List D} (hc : X.calm = true) (hN : X.N.Nodup) (ok : BlkOk X.N X.env.scope scope own)
    (h : LcP X b δ M scope own tg iter ifs elt xs enc t f js g (fun M1 out => E.nx M1 (δ.set i (some (.lst out)))) (fun c M' => E.xc c M' δ)) (hy : X.N[i]? = some y := by rfl) (hyl : X.env.scope.names.lookup y = some .local := by rfl)
    (hsw : swapsWith (.ListComp elt [⟨tg, iter, ifs, 0⟩] scope pos) (some (.Name y py)) spos.line X.env = pure true := by exact sw_true rfl rfl rfl (by decide +kernel)) (hif : ifs.length ≤ 1 := by decide) (hjs : ∀ j ∈ js, j ∈ own.map (·.2) := by decide) (hs : ∀ x, foldedSetIterable iter X.env x = pure x := by exact fun _ => rfl) : SW X b δ M (.Assign [.Name y py] (.ListComp elt [⟨tg, iter, ifs, 0⟩] scope pos) spos) E := fun R mR σ H SH kx => by
  refine ws_of (ps_setLc (i := i) (g := gB X scope tg) (tt := tTs X scope ifs) (te := tEB X scope elt) hc hN hy hyl hsw pi_wi ok
    (fun s' H' Cc cl fp => ⟨fun pins s σ H v u Q I r h => (h s' H' Cc cl fp).run pins s u I r⟩) (fun s' H' Cc cl fp => pts_tTs s' H' Cc cl fp hif) (fun s' H' Cc cl fp => ⟨fun pins s σ H Q I h => (h s' H' Cc cl fp).run pins s I⟩) hs) ?_
  refine h.read hif hjs mR SH kx.kx fun Dl M1 out H' p n1 n2 ⟨G, S', z⟩ => ?_
  obtain ⟨G', S2, sg, r⟩ := S'.freeze (p := Dl) um_same n2
  rw [dm_um n1] at S2
  exact ⟨M1, _, p, G', S2, Env.set i (Mono.env _ _ sg z.1) r, mR _ _ sg z.2⟩
theorem sw_setLcN (i : Nat) {y : Str} {py spos : Pos} {E : DE} {scope : Scope} {own : List (Str × Nat)} {α : Type} {xs : List α} {enc : α → D} {t : α → Bool} {f : α → D} {js : List Nat} {g : α → List D} (hc : X.calm = true) (hN : X.N.Nodup) (ok : BlkOk X.N X.env.scope scope own)
    (h : LcP X b δ M scope own tg iter ifs elt xs enc t f js g (fun M1 out => ∀ p, M1 p = none → Nw b p → E.nx (um M1 p (.lst out)) (δ.set i (some (.loc (.ref p))))) (fun c M' => E.xc c M' δ)) (hy : X.N[i]? = some y := by rfl) (hyl : X.env.scope.names.lookup y = some .local := by rfl)
    (hsw : swapsWith (.ListComp elt [⟨tg, iter, ifs, 0⟩] scope pos) (some (.Name y py)) spos.line X.env = pure true := by exact sw_true rfl rfl rfl (by decide +kernel)) (hif : ifs.length ≤ 1 := by decide) (hjs : ∀ j ∈ js, j ∈ own.map (·.2) := by decide) (hs : ∀ x, foldedSetIterable iter X.env x = pure x := by exact fun _ => rfl) : SW X b δ M (.Assign [.Name y py] (.ListComp elt [⟨tg, iter, ifs, 0⟩] scope pos) spos) E := fun R mR σ H SH kx => by
  refine ws_of (ps_setLc (i := i) (g := gB X scope tg) (tt := tTs X scope ifs) (te := tEB X scope elt) hc hN hy hyl hsw pi_wi ok
    (fun s' H' Cc cl fp => ⟨fun pins s σ H v u Q I r h => (h s' H' Cc cl fp).run pins s u I r⟩) (fun s' H' Cc cl fp => pts_tTs s' H' Cc cl fp hif) (fun s' H' Cc cl fp => ⟨fun pins s σ H Q I h => (h s' H' Cc cl fp).run pins s I⟩) hs) ?_
  refine h.read hif hjs mR SH kx.kx fun Dl M1 out H' p n1 n2 ⟨G, S', z⟩ => ?_
  exact ⟨_, _, p Dl n1 n2, G, S', Env.set i z.1 (Rep.loc_iff.mpr rfl), z.2⟩
end
end D4
end

section
set_option maxRecDepth 100000
set_option maxHeartbeats 4000000
/-! D4h: lists joined, cut, searched; == of data; isinstance; enumerate, zip. -/
namespace D4
open PySem L2

/-- a list: frozen, or a cell -/
inductive LA (M : Mp) : D → List D → Prop
  | l {xs : List D} : LA M (.lst xs) xs
  | c {a : Addr} {xs : List D} : M a = some (.lst xs) → LA M (.loc (.ref a)) xs
section
variable {X : Cx} {b : Bs} {δ : Od} {M : Mp} {G H : Hp} {K : Fg} {e o e1 e2 tg iter elt : Expr} {es ts ifs : List Expr} {Φ : Mp → D → Prop} {Ψ : Xs} {d d1 d2 : D} {ds xs ys : List D} {pos p p2 apos cpos : Pos} {a : Addr} {x : Str} {v : V}
theorem SO.la (S : SO K b M G H) (h : LA M d xs) (r : Rep K G d v) : ∃ a vs, v = .ref a ∧ H a = some (.lst vs) ∧ Reps K G xs vs := by
  cases h with
  | l =>
    obtain ⟨a, vs, e, ha, rs⟩ := Rep.lst_iff.mp r
    exact ⟨a, vs, e, S.gh _ _ ha, rs⟩
  | @c a xs hm =>
    obtain ⟨_, o, ho, vs, rfl, rs⟩ := S.cel a _ hm
    exact ⟨a, vs, Rep.loc_iff.mp r, ho, rs⟩
theorem o_cat (h1 : LA M d1 xs) (h2 : LA M d2 ys) (hl : xs.length + ys.length ≤ 100000) : OW X b (binaryOp .Add) M d1 d2 (One M (.lst (xs ++ ys))) := ow_of op_cat fun R mR x y H G Q S z r1 r2 k => by
  obtain ⟨a, vs, rfl, ha, ra⟩ := S.la h1 r1
  obtain ⟨c, ws, rfl, hc, rc⟩ := S.la h2 r2
  refine ⟨a, c, vs, ws, rfl, rfl, ha, hc, by rw [← ra.length, ← rc.length]; exact Nat.le_trans hl (by decide), fun p hp => ?_⟩
  obtain ⟨S2, sg⟩ := S.frz hp (.lst (vs ++ ws))
  exact k _ _ _ _ ⟨rfl, rfl⟩ ⟨_, S2, mR _ _ sg z, Rep.lst_iff.mpr ⟨p, _, rfl, upd_same, (ra.append rc).mono sg⟩⟩
theorem o_catT (hx : xs ≠ []) (hl : xs.length + ys.length ≤ 100000) : OW X b (binaryOp .Add) M (.tup xs) (.tup ys) (One M (.tup (xs ++ ys))) := ow_of op_catT fun R mR x y H G Q S z r1 r2 k => by
  obtain ⟨a, vs, rfl, ha, ra⟩ := Rep.tup_iff.mp r1
  obtain ⟨c, ws, rfl, hc, rc⟩ := Rep.tup_iff.mp r2
  refine ⟨a, c, vs, ws, rfl, rfl, SqT.of (S.gh _ _ ha), SqT.of (S.gh _ _ hc), ?_, by rw [← ra.length, ← rc.length]; exact Nat.le_trans hl (by decide), fun e => ?_, fun e p hp => ?_⟩
  · intro e; subst e; exact hx (List.eq_nil_of_length_eq_zero ra.length)
  · subst e
    have e : ys = [] := List.eq_nil_of_length_eq_zero rc.length
    subst e
    exact k _ _ _ _ ⟨rfl, rfl⟩ ⟨G, S, z, by rw [List.append_nil]; exact r1⟩
  · obtain ⟨S2, sg⟩ := S.frz hp (.tup (vs ++ ws))
    exact k _ _ _ _ ⟨rfl, rfl⟩ ⟨_, S2, mR _ _ sg z, Rep.tup_iff.mpr ⟨p, _, rfl, upd_same, (ra.append rc).mono sg⟩⟩
theorem reps_rep {K : Fg} {G : Hp} {xs : List D} {vs : List V} (r : Reps K G xs vs) : ∀ n : Nat, Reps K G (List.replicate n xs).flatten (List.replicate n vs).flatten
  | 0 => .nil
  | n + 1 => by
    rw [List.replicate_succ, List.replicate_succ, List.flatten_cons, List.flatten_cons]
    exact r.append (reps_rep r n)
theorem o_rep {i : Int} (h1 : LA M d1 xs) (h0 : -1000000 ≤ i) (h2 : i ≤ 1000000) (hl : xs.length * i.toNat ≤ 100000) : OW X b (binaryOp .Mult) M d1 (.int i) (One M (.lst (List.replicate i.toNat xs).flatten)) := ow_of op_rep fun R mR x y H G Q S z r1 r2 k => by
  obtain ⟨a, vs, rfl, ha, ra⟩ := S.la h1 r1
  refine ⟨a, i, vs, rfl, Rep.int_iff.mp r2, ha, by omega, by omega, by rw [← ra.length]; exact Nat.le_trans hl (by decide), fun p hp => ?_⟩
  obtain ⟨S2, sg⟩ := S.frz hp (.lst (List.replicate i.toNat vs).flatten)
  exact k _ _ _ _ ⟨rfl, rfl⟩ ⟨_, S2, mR _ _ sg z, Rep.lst_iff.mpr ⟨p, _, rfl, upd_same, (reps_rep ra _).mono sg⟩⟩
theorem c_lenA (h1 : LA M d1 xs) : CW X b (.builtin "len") M [d1] (One M (.int xs.length)) := cw_of call_len_seq fun R mR vs H G Q S z r k => by
  obtain ⟨v, rfl, h⟩ := reps1 r
  obtain ⟨a, ws, rfl, ha, rs⟩ := S.la h1 h
  exact ⟨a, ws, rfl, .inl (SqL.of ha), k _ _ _ H ⟨rfl, rfl⟩ ⟨G, S, z, Rep.int_iff.mpr (by rw [rs.length])⟩⟩
theorem x_la {i : Int} (h1 : LA M d1 xs) (h : atI xs i = some d) : XW X b M d1 (.int i) (One M d) := xw_of ix_list fun R mR x y H G Q S z r1 r2 k => by
  obtain ⟨a, vs, e, ha, rs⟩ := S.la h1 r1
  obtain ⟨v, hv, rv⟩ := ixN_reps rs h
  exact ⟨a, vs, i, v, e, Rep.int_iff.mp r2, SqL.of ha, hv, k M d v H ⟨rfl, rfl⟩ ⟨G, S, z, rv⟩⟩
/-! ### cut -/
def cutD (xs : List D) (lo hi : Option Int) : List D := (xs.drop (HT.sIx xs.length 0 lo)).take (HT.sIx xs.length xs.length hi - HT.sIx xs.length 0 lo)
theorem Reps.cut {vs : List V} (r : Reps K G xs vs) (lo hi : Option Int) : Reps K G (cutD xs lo hi) (cutV vs lo hi) := by
  unfold cutD cutV
  rw [r.length]
  exact (r.drop _).take _
/-- a part of a slice -/
inductive PW' (X : Cx) (b : Bs) (δ : Od) (M : Mp) : Option Expr → Option Int → Prop
  | none : PW' X b δ M none none
  | some {e : Expr} {i : Int} : EV X b δ M e (.int i) → PW' X b δ M (some e) (some i)
def WP (X : Cx) (e : Option Expr) : TO := match e with
  | none => tNoPart
  | some e => tPart (WE X e)
theorem po_wp {X : Cx} {e : Option Expr} : PO X e (WP X e) := by
  cases e with
  | none => exact po_none
  | some e => exact po_some pe_we
theorem PW'.run {pe : Option Expr} {pi : Option Int} (h : PW' X b δ M pe pi) {R : Hp → Prop} (mR : Mono R) {σ : L2.St} {H : Hp} {Q : Option Int → Hp → Prop} (SH : SS X.K b M (RE X.K σ δ R) H) (k : ∀ H', SS X.K b M (RE X.K σ δ R) H' → Q pi H') : WP X pe σ H Q := by
  cases h with
  | none => exact k H SH
  | @some e i h =>
    refine h R mR σ H _ SH (fun M1 d v H1 p S1 => ?_) .nx
    obtain ⟨rfl, rfl⟩ := p
    obtain ⟨G, S1, z1, z2, z3⟩ := S1
    exact ⟨i, Rep.int_iff.mp z3, k H1 ⟨G, S1, z1, z2⟩⟩
def WSl (X : Cx) : V → Option Int → Option Int → Hp → VK → Prop := fun x lo hi H Q => rSlL X.K x lo hi H Q ∨ rSlT X.K x lo hi H Q
theorem ev_slice {lo hi : Option Expr} {l h : Option Int} (h1 : EV X b δ M e d1) (h2 : PW' X b δ M lo l) (h3 : PW' X b δ M hi h)
    (hq : ∀ (R : Hp → Prop), Mono R → ∀ (x : V) (H G : Hp) (Q : VK), SO X.K b M G H → R G → Rep X.K G d1 x → (∀ v H', SS X.K b M (fun G => R G ∧ Rep X.K G d v) H' → Q v H') → WSl X x l h H Q) : EV X b δ M (.Subscript e (.Slice lo hi none p2) pos) d := fun R mR σ H Q SH k kx => by
  refine we_of (pe_slice (sl_list.or sl_tup) pe_we po_wp po_wp) ?_
  refine h1 R mR σ H _ SH (fun M1 d' v H1 p1 S1 => ?_) .nx
  obtain ⟨rfl, rfl⟩ := p1
  refine h2.run (R := fun G => R G ∧ Rep X.K G d1 v) (mR.and .rep) S1 fun H2 S2 => ?_
  refine h3.run (R := fun G => R G ∧ Rep X.K G d1 v) (mR.and .rep) S2 fun H3 S3 => ?_
  obtain ⟨G, S3, z1, z2, z3⟩ := S3
  exact hq (fun G => Env X.K G σ δ ∧ R G) (Mono.env.and mR) v H3 G Q S3 ⟨z1, z2⟩ z3 fun v' H' S' => k M d v' H' ⟨rfl, rfl⟩ (S'.imp fun G z => ⟨z.1.1, z.1.2, z.2⟩)
theorem ev_cut {lo hi : Option Expr} {l h : Option Int} (h1 : EV X b δ M e d1) (hl : LA M d1 xs) (h2 : PW' X b δ M lo l) (h3 : PW' X b δ M hi h) : EV X b δ M (.Subscript e (.Slice lo hi none p2) pos) (.lst (cutD xs l h)) :=
  ev_slice h1 h2 h3 fun R mR x H G Q S z r k => by
    obtain ⟨a, vs, rfl, ha, rs⟩ := S.la hl r
    refine .inl ⟨a, vs, rfl, SqL.of ha, fun p hp => ?_⟩
    obtain ⟨S2, sg⟩ := S.frz hp (.lst (cutV vs l h))
    exact k _ _ ⟨_, S2, mR _ _ sg z, Rep.lst_iff.mpr ⟨p, _, rfl, upd_same, (rs.cut l h).mono sg⟩⟩
theorem ev_cutS {ns : List Int} {lo hi : Option Expr} {l h : Option Int} (h1 : EV X b δ M e (.scr ns)) (h2 : PW' X b δ M lo l) (h3 : PW' X b δ M hi h) : EV X b δ M (.Subscript e (.Slice lo hi none p2) pos) (.lst (cutD (ns.map D.int) l h)) :=
  ev_slice h1 h2 h3 fun R mR x H G Q S z r k => by
    obtain ⟨a, rfl, ha⟩ := Rep.scr_iff.mp r
    refine .inl ⟨a, _, rfl, S.gh.seq ha, fun p hp => ?_⟩
    obtain ⟨S2, sg⟩ := S.frz hp (.lst (cutV (ns.map V.int) l h))
    exact k _ _ ⟨_, S2, mR _ _ sg z, Rep.lst_iff.mpr ⟨p, _, rfl, upd_same, (Reps.cut (Reps.of_ints ns) l h)⟩⟩
theorem ev_cutT {lo hi : Option Expr} {l h : Option Int} (h1 : EV X b δ M e (.tup xs)) (h2 : PW' X b δ M lo l) (h3 : PW' X b δ M hi h) (hn : ¬ (HT.sIx xs.length 0 l = 0 ∧ HT.sIx xs.length xs.length h = xs.length)) : EV X b δ M (.Subscript e (.Slice lo hi none p2) pos) (.tup (cutD xs l h)) :=
  ev_slice h1 h2 h3 fun R mR x H G Q S z r k => by
    obtain ⟨a, vs, rfl, ha, rs⟩ := Rep.tup_iff.mp r
    refine .inr ⟨a, vs, rfl, SqT.of (S.gh _ _ ha), by rw [← rs.length]; exact hn, fun p hp => ?_⟩
    obtain ⟨S2, sg⟩ := S.frz hp (.tup (cutV vs l h))
    exact k _ _ ⟨_, S2, mR _ _ sg z, Rep.tup_iff.mpr ⟨p, _, rfl, upd_same, (rs.cut l h).mono sg⟩⟩
/-! ### in -/
theorem inV_int (i : Int) : ∀ ns : List Int, inV (.int i) (ns.map V.int) = decide (i ∈ ns)
  | [] => rfl
  | n :: ns => by
    show (eqV (.int n) (.int i) || inV (.int i) (ns.map V.int)) = _
    rw [inV_int i ns]
    have e : eqV (.int n) (.int i) = decide (i = n) := by
      show (n == i) = _
      rw [Bool.beq_eq_decide_eq]
      exact decide_eq_decide.mpr ⟨Eq.symm, Eq.symm⟩
    rw [e]
    by_cases h : i = n
    · simp [h]
    · by_cases h2 : i ∈ ns <;> simp [h, h2]
theorem flat_ints (ns : List Int) : (ns.map V.int).all flatV = true := by
  rw [List.all_map]; exact List.all_eq_true.mpr fun _ _ => rfl
theorem o_inI {i : Int} {ns : List Int} (h : LA M d2 (ns.map D.int)) : OW X b (compareOp .In) M (.int i) d2 (One M (.bl (decide (i ∈ ns)))) := ow_of op_in_seq fun R mR x y H G Q S z r1 r2 k => by
  obtain ⟨a, vs, rfl, ha, rs⟩ := S.la h r2
  have e := rs.ints
  subst e
  refine ⟨a, _, rfl, .inl (SqL.of ha), by rw [Rep.int_iff.mp r1] <;> rfl, flat_ints ns, ?_⟩
  rw [if_neg Bool.false_ne_true, Rep.int_iff.mp r1, inV_int]
  exact k _ _ _ H ⟨rfl, rfl⟩ ⟨G, S, z, Rep.bl_iff.mpr rfl⟩
theorem o_notinI {i : Int} {ns : List Int} (h : LA M d2 (ns.map D.int)) : OW X b (compareOp .NotIn) M (.int i) d2 (One M (.bl (!decide (i ∈ ns)))) := ow_of op_notIn_seq fun R mR x y H G Q S z r1 r2 k => by
  obtain ⟨a, vs, rfl, ha, rs⟩ := S.la h r2
  have e := rs.ints
  subst e
  refine ⟨a, _, rfl, .inl (SqL.of ha), by rw [Rep.int_iff.mp r1] <;> rfl, flat_ints ns, ?_⟩
  rw [if_pos rfl, Rep.int_iff.mp r1, inV_int]
  exact k _ _ _ H ⟨rfl, rfl⟩ ⟨G, S, z, Rep.bl_iff.mpr rfl⟩
theorem ev_count {i : Int} {ns : List Int} (h1 : EV X b δ M o d1) (hl : LA M d1 (ns.map D.int)) (h2 : EV X b δ M e (.int i))
    (hbase : attributeBase o "count" X.env (eval o X.env) = eval o X.env := by rfl)
    (hfew : ((backTo cpos (starEach [e] X.env)).all (fun x => !x.1) && (backToKw cpos (keywordEach [] X.env)).all (fun x => x.1.isSome)
      && decide (([e] : List Expr).length + ([] : List Keyword).length + (if ([] : List Keyword).isEmpty then 0 else 1) < 30)) = true := by exact D4.few_ok rfl)
    (hline : (apos.endLine == cpos.line) = true := by rfl) (hs : starEach [e] X.env = (false, eval e X.env) :: starEach [] X.env := by exact D4.starEach_c rfl) (hplain : (backTo cpos (starEach [] X.env)).any (·.1) = false := by exact D4.back_any rfl) : EV X b δ M (.Call (.Attribute o "count" apos) [e] [] cpos) (.int (ns.count i : Nat)) := by
  refine ew_bm PySem.F.plainAttrs_list PySem.F.slot_list_count PySem.F.type_list_count (h1.to ⟨fun G H v S r => ?_, ?_⟩) hbase hfew hline hs hplain
  · obtain ⟨a, vs, rfl, ha, rs⟩ := S.la hl r
    exact .inl ⟨rfl, _, SqL.of ha⟩
  · refine EWs.to (evs_cons h2 evs_nil hs) (mw_of mt_lcount fun R mR v vs H G Q S z r rs k => ?_)
    obtain ⟨a, ws, rfl, ha, ra⟩ := S.la hl r
    have e := ra.ints
    subst e
    obtain ⟨w, rfl, rw'⟩ := reps1 rs
    exact ⟨a, ns, i, rfl, by rw [Rep.int_iff.mp rw'], SqL.of ha, k _ _ _ H ⟨rfl, rfl⟩ ⟨G, S, z, Rep.int_iff.mpr rfl⟩⟩
end
/-! ### == of data -/
mutual
def toPy : D → PyData
  | .non => .none
  | .bl b => .bool b
  | .int i => .int i
  | .str s => .str s
  | .lst xs => .list (toPys xs)
  | .tup xs => .tuple (toPys xs)
  | .scr _ => .none
  | .loc _ => .none
def toPys : List D → List PyData
  | [] => []
  | d :: ds => toPy d :: toPys ds
end
mutual
/-- plain data -/
def okD : D → Bool
  | .non => true
  | .bl _ => true
  | .int _ => true
  | .str s => PyData.strOk s
  | .lst xs => okDs xs
  | .tup xs => okDs xs
  | .scr _ => false
  | .loc _ => false
def okDs : List D → Bool
  | [] => true
  | d :: ds => okD d && okDs ds
end
mutual
def depD : D → Nat
  | .lst xs => depDs xs + 1
  | .tup xs => depDs xs + 1
  | .non => 0
  | .bl _ => 0
  | .int _ => 0
  | .str _ => 0
  | .scr _ => 0
  | .loc _ => 0
def depDs : List D → Nat
  | [] => 0
  | d :: ds => max (depD d) (depDs ds)
end
mutual
theorem can_okD : ∀ d : D, okD d = true → (toPy d).canLay0 = true
  | .non, _ => rfl
  | .bl _, _ => rfl
  | .int _, _ => rfl
  | .str s, h => by
    simp only [toPy, PyData.canLay0]
    simpa only [okD] using h
  | .lst xs, h => by
    simp only [toPy, PyData.canLay0]
    exact can_okDs xs (by simpa only [okD] using h)
  | .tup xs, h => by
    simp only [toPy, PyData.canLay0]
    exact can_okDs xs (by simpa only [okD] using h)
  | .scr _, h => by simp [okD] at h
  | .loc _, h => by simp [okD] at h
theorem can_okDs : ∀ ds : List D, okDs ds = true → PyData.canLayAll0 (toPys ds) = true
  | [], _ => rfl
  | d :: ds, h => by
    simp only [okDs, Bool.and_eq_true] at h
    simp only [toPys, PyData.canLayAll0, Bool.and_eq_true]
    exact ⟨can_okD d h.1, can_okDs ds h.2⟩
end
mutual
theorem dep_toPy : ∀ d : D, (toPy d).depth = depD d
  | .non => rfl
  | .bl _ => rfl
  | .int _ => rfl
  | .str _ => rfl
  | .lst xs => by simp only [toPy, PyData.depth, depD, dep_toPys xs]
  | .tup xs => by simp only [toPy, PyData.depth, depD, dep_toPys xs]
  | .scr _ => rfl
  | .loc _ => rfl
theorem dep_toPys : ∀ ds : List D, PyData.depthAll (toPys ds) = depDs ds
  | [] => rfl
  | d :: ds => by simp only [toPys, PyData.depthAll, depDs, dep_toPy d, dep_toPys ds]
end
theorem okDs_iff : ∀ ds : List D, okDs ds = true ↔ ∀ d ∈ ds, okD d = true
  | [] => by simp [okDs]
  | d :: ds => by simp only [okDs, Bool.and_eq_true, okDs_iff ds, List.mem_cons, forall_eq_or_imp]
theorem depDs_le {n : Nat} : ∀ ds : List D, (∀ d ∈ ds, depD d ≤ n) → depDs ds ≤ n
  | [], _ => Nat.zero_le _
  | d :: ds, h => by
    simp only [depDs]
    exact Nat.max_le.mpr ⟨h d List.mem_cons_self, depDs_le ds fun d' h' => h d' (List.mem_cons_of_mem _ h')⟩
/-- may be compared -/
def Okd (d : D) : Prop := okD d = true ∧ depD d ≤ 60
mutual
theorem Rep.dp {K : Fg} {G H : Hp} (e : Same G H) : ∀ (d : D) (v : V), okD d = true → Rep K G d v → Dp K H v (toPy d)
  | .non, v, _, r => by rw [Rep.non_iff.mp r]; exact .non
  | .bl b, v, _, r => by rw [Rep.bl_iff.mp r]; exact .bl b
  | .int b, v, _, r => by rw [Rep.int_iff.mp r]; exact .int b
  | .str b, v, _, r => by rw [Rep.str_iff.mp r]; exact .str b
  | .lst xs, v, h, r => by
    obtain ⟨a, vs, rfl, ha, rs⟩ := Rep.lst_iff.mp r
    simp only [toPy]
    exact .lst (SqL.of (e _ _ ha)) (Reps.dp e xs vs (by simpa only [okD] using h) rs)
  | .tup xs, v, h, r => by
    obtain ⟨a, vs, rfl, ha, rs⟩ := Rep.tup_iff.mp r
    simp only [toPy]
    exact .tup (SqT.of (e _ _ ha)) (Reps.dp e xs vs (by simpa only [okD] using h) rs)
  | .scr _, v, h, r => by simp [okD] at h
  | .loc _, v, h, r => by simp [okD] at h
theorem Reps.dp {K : Fg} {G H : Hp} (e : Same G H) : ∀ (ds : List D) (vs : List V), okDs ds = true → Reps K G ds vs → DpAll K H vs (toPys ds)
  | [], vs, _, r => by rw [r.nil_inv]; exact .nil
  | d :: ds, vs, h, r => by
    simp only [okDs, Bool.and_eq_true] at h
    obtain ⟨v, r', rfl, h1, t⟩ := r.cons_inv
    simp only [toPys]
    exact .cons (Rep.dp e d v h.1 h1) (Reps.dp e ds r' h.2 t)
end
theorem Okd.shaped {d : D} (h : Okd d) : SeqAt.shaped (toPy d) = true := by
  unfold SeqAt.shaped
  rw [can_okD d h.1, dep_toPy, decide_eq_true (Nat.le_trans h.2 (by decide))]
  rfl
/-- == of data -/
def deq (a b : D) : Bool := PyData.eqv (toPy a) (toPy b)
def deqs (a b : List D) : Bool := PyData.eqvAll (toPys a) (toPys b)
theorem deq_refl {d : D} (h : okD d = true) : deq d d = true := SeqAt.eqv_refl _ (can_okD d h)
theorem deq_int {i j : Int} : deq (.int i) (.int j) = decide (i = j) := by
  show (i == j) = _
  rw [Bool.beq_eq_decide_eq]
theorem deq_lst {xs ys : List D} : deq (.lst xs) (.lst ys) = deqs xs ys := by simp only [deq, deqs, toPy, PyData.eqv]
theorem deq_tup {xs ys : List D} : deq (.tup xs) (.tup ys) = deqs xs ys := by simp only [deq, deqs, toPy, PyData.eqv]
theorem deqs_nil : deqs [] [] = true := rfl
theorem deqs_cons {x y : D} {xs ys : List D} : deqs (x :: xs) (y :: ys) = (deq x y && deqs xs ys) := by simp only [deq, deqs, toPys, PyData.eqvAll]
theorem deqs_l {x : D} {xs : List D} : deqs (x :: xs) [] = false := by simp only [deqs, toPys, PyData.eqvAll]
theorem deqs_r {x : D} {xs : List D} : deqs [] (x :: xs) = false := by simp only [deqs, toPys, PyData.eqvAll]
theorem deqs_nil_iff {xs : List D} : deqs xs [] = xs.isEmpty := by cases xs with
  | nil => rfl
  | cons x xs => exact deqs_l
section
variable {X : Cx} {b : Bs} {M : Mp} {d1 d2 : D}
/-- what stands for data: frozen, or a cell that is a list of such -/
inductive DA (M : Mp) : D → D → Prop
  | f {d : D} : DA M d d
  | c {a : Addr} {xs : List D} : M a = some (.lst xs) → DA M (.loc (.ref a)) (.lst xs)
theorem DA.dp {K : Fg} {G H : Hp} {v : V} (S : SO K b M G H) (h : DA M d1 d2) (o : okD d2 = true) (r : Rep K G d1 v) : Dp K H v (toPy d2) := by
  cases h with
  | f => exact r.dp S.gh _ _ o
  | @c a xs hm =>
    obtain ⟨_, ob, ho, vs, rfl, rs⟩ := S.cel a _ hm
    rw [Rep.loc_iff] at r
    subst r
    simp only [toPy]
    exact .lst (SqL.of ho) (Reps.dp S.gh xs vs (by simpa only [okD] using o) rs)
theorem o_eqD {e1 e2 : D} (hu : X.A.units + 64 < cLine) (h1 : DA M d1 e1) (h2 : DA M d2 e2) (o1 : Okd e1) (o2 : Okd e2) : OW X b (compareOp .Eq) M d1 d2 (One M (.bl (deq e1 e2))) := ow_of (op_eqD hu) fun R mR x y H G Q S z r1 r2 k =>
  ⟨_, _, h1.dp S o1.1 r1, h2.dp S o2.1 r2, o1.shaped, o2.shaped, k _ _ _ H ⟨rfl, rfl⟩ ⟨G, S, z, Rep.bl_iff.mpr rfl⟩⟩
theorem o_neD {e1 e2 : D} (hu : X.A.units + 64 < cLine) (h1 : DA M d1 e1) (h2 : DA M d2 e2) (o1 : Okd e1) (o2 : Okd e2) : OW X b (compareOp .NotEq) M d1 d2 (One M (.bl (!deq e1 e2))) := ow_of (op_neD hu) fun R mR x y H G Q S z r1 r2 k =>
  ⟨_, _, h1.dp S o1.1 r1, h2.dp S o2.1 r2, o1.shaped, o2.shaped, k _ _ _ H ⟨rfl, rfl⟩ ⟨G, S, z, Rep.bl_iff.mpr rfl⟩⟩
end
end D4
end

section
set_option maxRecDepth 100000
set_option maxHeartbeats 4000000
/-! D4i: isinstance, enumerate, zip, a text's signs, list(d.values()). -/
namespace D4
open PySem L2
/-- a value's type -/
inductive TyD (M : Mp) : D → String → Prop
  | non : TyD M .non "NoneType"
  | bl {c : Bool} : TyD M (.bl c) "bool"
  | int {i : Int} : TyD M (.int i) "int"
  | str {s : Str} : TyD M (.str s) "str"
  | lst {xs : List D} : TyD M (.lst xs) "list"
  | tup {xs : List D} : TyD M (.tup xs) "tuple"
  | cl {a : Addr} {xs : List D} : M a = some (.lst xs) → TyD M (.loc (.ref a)) "list"
  | cd {a : Addr} {kvs : List (Int × D)} : M a = some (.dI kvs) → TyD M (.loc (.ref a)) "dict"
section
variable {X : Cx} {b : Bs} {δ : Od} {M : Mp} {G H : Hp} {K : Fg} {e o e1 e2 tg iter elt : Expr} {es ts ifs : List Expr} {Φ : Mp → D → Prop} {Ψ : Xs} {d d1 d2 : D} {ds xs ys : List D} {pos p p2 apos cpos tpos : Pos} {a : Addr} {x : Str} {v : V}
theorem TyD.tyx {t : String} (h : TyD M d t) (S : SO K b M G H) (r : Rep K G d v) : TyX K H v (.type t) := by
  cases h with
  | non => rw [Rep.non_iff.mp r]; exact .base .non
  | bl => rw [Rep.bl_iff.mp r]; exact .base (.bl _)
  | int => rw [Rep.int_iff.mp r]; exact .base (.int _)
  | str => rw [Rep.str_iff.mp r]; exact .base (.str _)
  | lst =>
    obtain ⟨a, vs, rfl, ha, rs⟩ := Rep.lst_iff.mp r
    exact .base (.lst (S.gh _ _ ha))
  | tup =>
    obtain ⟨a, vs, rfl, ha, rs⟩ := Rep.tup_iff.mp r
    exact .base (.tup (S.gh _ _ ha))
  | cl hm =>
    obtain ⟨_, ob, ho, vs, rfl, rs⟩ := S.cel _ _ hm
    rw [Rep.loc_iff.mp r]
    exact .base (.lst ho)
  | cd hm =>
    obtain ⟨_, ob, ho, vs, rfl, rs⟩ := S.cel _ _ hm
    rw [Rep.loc_iff.mp r]
    exact .base (.dK ho)
theorem c_isi {t T : String} {c : Bool} (h : TyD M d t) (hk : kitB t T = some c := by decide +kernel) : CW X b (.builtin "isinstance") M [d, .loc (.ty T)] (One M (.bl c)) := cw_of call_isi fun R mR vs H G Q S z r k => by
  obtain ⟨v, w, rfl, r1, r2⟩ := reps2 r
  rw [Rep.loc_iff] at r2
  subst r2
  exact ⟨v, .ty T, .type t, .type T, c, rfl, .ty T, h.tyx S r1, kit_ty hk, k _ _ _ H ⟨rfl, rfl⟩ ⟨G, S, z, Rep.bl_iff.mpr rfl⟩⟩
/-! ### enumerate, zip, signs -/
def enumD : Nat → List D → List D
  | _, [] => []
  | i, x :: xs => .tup [.int (i : Nat), x] :: enumD (i + 1) xs
theorem enumD_len : ∀ (i : Nat) (xs : List D), (enumD i xs).length = xs.length
  | _, [] => rfl
  | i, x :: xs => by show (enumD (i + 1) xs).length + 1 = xs.length + 1; rw [enumD_len]
theorem enumD_get : ∀ (j : Nat) (xs : List D) (i : Nat), (enumD j xs)[i]? = xs[i]?.map fun x => .tup [.int ((j + i : Nat) : Int), x]
  | j, [], i => by simp [enumD]
  | j, x :: xs, 0 => by simp [enumD]
  | j, x :: xs, i + 1 => by
    show (enumD (j + 1) xs)[i]? = xs[i]?.map _
    rw [enumD_get, show j + 1 + i = j + (i + 1) by omega]
theorem iw_enum {elts : List Expr} {kk : Nat} {Φ : Mp → (Mp → Prop) → List D → Prop} (hg : Gl X "enumerate") (hm : X.mg "enumerate" = none) (h : EV X b δ M e (.lst xs)) (hΦ : Φ M (fun _ => True) (enumD 0 xs))
    (hs : starEach [e] X.env = [(false, eval e X.env)] := by exact D4.starEach_1 rfl) (hs1 : starEach [e] X.env = (false, eval e X.env) :: starEach [] X.env := by exact D4.starEach_c rfl) : IW X b δ M (.Tuple elts kk tpos) (.Call (.Name "enumerate" p) [e] [] pos) Φ Ψ := fun R mR σ H Q S k kx => by
  refine wi_of (pi_enum hg hm (pa_cons pe_we pa_nil hs1) hs) ?_
  refine h R mR σ H _ S (fun M1 d v H1 p S1 => ?_) .nx
  obtain ⟨rfl, rfl⟩ := p
  obtain ⟨G, S1, z1, z2, z3⟩ := S1
  obtain ⟨a, vs, rfl, ha, rs⟩ := Rep.lst_iff.mp z3
  refine ⟨a, vs, rfl, SqL.of (S1.gh _ _ ha), ?_⟩
  refine k _ _ _ H1 _ (fun G => R G ∧ G a = some (.lst vs) ∧ Reps X.K G xs vs) hΦ (mR.and (Mono.and (fun G G' e h => e _ _ h) .reps)) (fun G z => z.1) ⟨G, S1, z1, z2, ha, rs⟩ ?_
  refine ⟨_, _, by rw [enumD_len, rs.length]; exact walk_enum (K := X.K) (a := a) (xs := vs), ?ga, ?gb⟩
  case ga => exact fun M' H' _ ⟨G, S', z⟩ => SqL.of (S'.gh _ _ z.2.1)
  case gb =>
    intro i d x M' R' H' H'' mR' hi _ ⟨G, S', r', z⟩ y
    obtain ⟨T, x1, x2, rfl, hT, rfl, hx1, hx2⟩ := y
    rw [enumD_get] at hi
    have hx1 : some (V.int (i : Nat)) = some x1 := hx1
    have hx2 : vs[i]? = some x2 := hx2
    cases hx1
    cases q : xs[i]? with
    | none => rw [q] at hi; cases hi
    | some x =>
      rw [q] at hi
      cases hi
      obtain ⟨w, q1, q2⟩ := z.2.2.get q
      rw [hx2] at q1
      cases q1
      obtain ⟨S2, sg⟩ := S'.frz hT (.tup [.int (i : Nat), x2])
      refine ⟨_, S2, mR' _ _ sg r', (mR.and (Mono.and (fun G G' e h => e _ _ h) .reps)) _ _ sg z, Rep.tup_iff.mpr ⟨T, _, rfl, upd_same, .cons (Rep.int_iff.mpr (by simp)) (.cons (q2.mono sg) .nil)⟩⟩
def zipD : List D → List D → List D
  | x :: xs, y :: ys => .tup [x, y] :: zipD xs ys
  | _, _ => []
theorem zipD_len : ∀ (xs ys : List D), (zipD xs ys).length = min xs.length ys.length
  | [], ys => by simp [zipD]
  | x :: xs, [] => by simp [zipD]
  | x :: xs, y :: ys => by
    show (zipD xs ys).length + 1 = _
    rw [zipD_len, List.length_cons, List.length_cons]; omega
theorem zipD_get : ∀ (xs ys : List D) (i : Nat) (d : D), (zipD xs ys)[i]? = some d → ∃ x y, xs[i]? = some x ∧ ys[i]? = some y ∧ d = .tup [x, y]
  | [], ys, i, d, h => by simp [zipD] at h
  | x :: xs, [], i, d, h => by simp [zipD] at h
  | x :: xs, y :: ys, 0, d, h => ⟨x, y, rfl, rfl, by simpa [zipD] using h.symm⟩
  | x :: xs, y :: ys, i + 1, d, h => zipD_get xs ys i d h
theorem iw_zip {elts : List Expr} {kk : Nat} {Φ : Mp → (Mp → Prop) → List D → Prop} (hg : Gl X "zip") (hm : X.mg "zip" = none) (h1 : EV X b δ M e1 (.lst xs)) (h2 : EV X b δ M e2 (.lst ys)) (hΦ : Φ M (fun _ => True) (zipD xs ys))
    (hs1 : starEach [e1, e2] X.env = (false, eval e1 X.env) :: starEach [e2] X.env := by rfl) (hs2 : starEach [e2] X.env = (false, eval e2 X.env) :: starEach [] X.env := by exact D4.starEach_c rfl)
    (hpi : ∀ ta, PA X [e1, e2] ta → PI X (.Tuple elts kk tpos) (.Call (.Name "zip" p) [e1, e2] [] pos) (iZip X.K ta) := by exact fun ta ha => pi_zip (by assumption) (by assumption) ha) : IW X b δ M (.Tuple elts kk tpos) (.Call (.Name "zip" p) [e1, e2] [] pos) Φ Ψ := fun R mR σ H Q S k kx => by
  refine wi_of (hpi _ (pa_cons pe_we (pa_cons pe_we pa_nil hs2) hs1)) ?_
  refine h1 R mR σ H _ S (fun M1 d v H1 p S1 => ?_) .nx
  obtain ⟨rfl, rfl⟩ := p
  refine h2 (fun G => R G ∧ Rep X.K G (.lst xs) v) (mR.and .rep) σ H1 _ S1 (fun M2 d w H2 p2 S2 => ?_) .nx
  obtain ⟨rfl, rfl⟩ := p2
  obtain ⟨G, S3, z1, ⟨z2, z3⟩, z4⟩ := S2
  obtain ⟨a, vs, rfl, ha, rs⟩ := Rep.lst_iff.mp z3
  obtain ⟨c, ws, rfl, hc, rc⟩ := Rep.lst_iff.mp z4
  refine ⟨a, c, vs, ws, rfl, SqL.of (S3.gh _ _ ha), SqL.of (S3.gh _ _ hc), ?_⟩
  refine k _ _ _ H2 _ (fun G => R G ∧ (G a = some (.lst vs) ∧ Reps X.K G xs vs) ∧ (G c = some (.lst ws) ∧ Reps X.K G ys ws)) hΦ (mR.and (Mono.and (Mono.and (fun G G' e h => e _ _ h) .reps) (Mono.and (fun G G' e h => e _ _ h) .reps))) (fun G z => z.1) ⟨G, S3, z1, z2, ⟨ha, rs⟩, ⟨hc, rc⟩⟩ ?_
  refine ⟨_, _, by rw [zipD_len, rs.length, rc.length]; exact walk_zip (K := X.K) (a := a) (b := c) (xs := vs) (ys := ws) rfl, ?ga, ?gb⟩
  case ga => exact fun M' H' _ ⟨G, S', z⟩ => ⟨SqL.of (S'.gh _ _ z.2.1.1), SqL.of (S'.gh _ _ z.2.2.1)⟩
  case gb =>
    intro i d x M' R' H' H'' mR' hi _ ⟨G, S', r', z⟩ y
    obtain ⟨T, x1, x2, rfl, hT, rfl, hx1, hx2⟩ := y
    obtain ⟨y1, y2, q1, q2, rfl⟩ := zipD_get _ _ _ _ hi
    have hx1 : vs[i]? = some x1 := hx1
    have hx2 : ws[i]? = some x2 := hx2
    obtain ⟨w1, p1, p2⟩ := z.2.1.2.get q1
    obtain ⟨w2, p3, p4⟩ := z.2.2.2.get q2
    rw [hx1] at p1
    rw [hx2] at p3
    cases p1; cases p3
    obtain ⟨S2, sg⟩ := S'.frz hT (.tup [x1, x2])
    exact ⟨_, S2, mR' _ _ sg r', (mR.and (Mono.and (Mono.and (fun G G' e h => e _ _ h) .reps) (Mono.and (fun G G' e h => e _ _ h) .reps))) _ _ sg z, Rep.tup_iff.mpr ⟨T, _, rfl, upd_same, .cons (p2.mono sg) (.cons (p4.mono sg) .nil)⟩⟩
/-- a text, sign by sign -/
def signD (z : Str) : List D := z.cps.toList.map fun c => D.str ⟨#[c]⟩
theorem iw_str {z : Str} {Φ : Mp → (Mp → Prop) → List D → Prop} (h : EV X b δ M e (.str z)) (hΦ : Φ M (fun _ => True) (signD z)) : IW X b δ M tg e Φ Ψ := fun R mR σ H Q S k kx => by
  refine wi_of (pi_str pe_we) ?_
  refine h R mR σ H _ S (fun M1 d v H1 p S1 => ?_) .nx
  obtain ⟨rfl, rfl⟩ := p
  obtain ⟨G, S1, z1, z2, z3⟩ := S1
  refine ⟨z, Rep.str_iff.mp z3, ?_⟩
  refine k _ _ _ H1 _ R hΦ mR (fun G z => z) ⟨G, S1, z1, z2⟩ ?_
  refine ⟨_, _, by unfold signD; rw [List.length_map, Array.length_toList]; exact walk_str (z := z), ?ga, ?gb⟩
  case ga => exact fun M' H' _ _ => trivial
  case gb =>
    intro i d x M' R' H' H'' mR' hi _ ⟨G, S', r', z'⟩ y
    obtain ⟨rfl, c, hc, rfl⟩ := y
    unfold signD at hi
    rw [List.getElem?_map, Array.getElem?_toList, hc] at hi
    cases hi
    exact ⟨G, S', r', z', Rep.str_iff.mpr rfl⟩
end
/-! ### list(d.values()) -/
section
variable {X : Cx} {e : Expr} {te : TE} {p pos apos cpos : Pos}
def DictAtL (H : Hp) (d : Addr) (vs : List V) : Prop := (∃ kvs, Rd H d (.dK kvs) ∧ vs = kvs.map (·.2)) ∨ ∃ kvs, Rd H d (.dT kvs) ∧ vs = kvs.map (·.2)
def tListVals (te : TE) : TE := fun σ H Q => te σ H fun x H1 => ∃ d vs, x = .ref d ∧ DictAtL H1 d vs ∧ ∀ q, H1 q = none → Q (.ref q) (upd H1 q (.lst vs))
theorem kv_raw {pins : List (Addr × Obj)} {σ : L2.St} {H : Hp} {s : Shared} {d : Addr} {vs : List V} (I : Inv X pins σ H s) (h : DictAtL H d vs) :
    (d == sysModules) = false ∧ vs.length ≤ sizeLine ∧ ∃ es ep, s.heap.DictRaw d es ep ∧ es.size = vs.length ∧ ∀ i (hi : i < es.size) (v : V), vs[i]? = some v → RelV v es[i].val := by
  rcases h with ⟨kvs, hr, rfl⟩ | ⟨kvs, hr, rfl⟩
  · obtain ⟨z, lo, ws, rk, hd⟩ := dk_rd I.hok hr
    obtain ⟨es, ep, h1, h2, h3⟩ := hd.raw
    refine ⟨lo, by rw [List.length_map]; exact z, es, ep, h1, by rw [List.length_map, h2]; exact (Paired.length rk).symm, fun i hi v hv => ?_⟩
    rw [List.getElem?_map] at hv
    cases q : kvs[i]? with
    | none => rw [q] at hv; cases hv
    | some kv =>
      rw [q] at hv
      cases hv
      obtain ⟨u, q1, q2⟩ := kv_get rk (k := kv.1) (v := kv.2) q
      rw [(h3 i hi _ _ q1).2]
      exact q2
  · obtain ⟨z, lo, xs, rk, o, es, ep, h1, h2, h3, h4, _⟩ := (show ObjOk X.prog X.w H s.heap d (.dT kvs) from hr.ok I.hok)
    have hlen : kvs.length = xs.length := Paired.length rk
    have he : es.size = xs.length := by
      have := congrArg List.length h4
      rw [List.length_map, Array.length_toList] at this
      exact this
    refine ⟨lo, by rw [List.length_map]; exact z, es, ep, ⟨o, h1, h2, h3⟩, by rw [List.length_map, he, hlen], fun i hi v hv => ?_⟩
    rw [List.getElem?_map] at hv
    cases q : kvs[i]? with
    | none => rw [q] at hv; cases hv
    | some kv =>
      rw [q] at hv
      cases hv
      obtain ⟨y, q1, q2⟩ := paired_get rk q
      have e1 : es.toList[i]? = some (entryOfKey (tupleKind (mixKind X.prog X.w)) y) := by rw [h4, List.getElem?_map, q1] <;> rfl
      have e2 : es[i] = entryOfKey (tupleKind (mixKind X.prog X.w)) y := by
        rw [Array.getElem?_toList, Array.getElem?_eq_getElem hi] at e1
        exact Option.some.inj e1
      rw [e2]
      exact q2.2.2
theorem pe_listVals (hc : X.calm = true) (he : PE X e te) (hg : Gl X "list") (hm : X.mg "list" = none) (hv : bootBuiltins "list" = some (.type "list")) (hbase : attributeBase e "values" X.env (eval e X.env) = eval e X.env := by rfl) (hline : (apos.endLine == cpos.line) = true := by rfl)
    (hs : starEach [.Call (.Attribute e "values" apos) [] [] cpos] X.env = (false, eval (.Call (.Attribute e "values" apos) [] [] cpos) X.env) :: starEach [] X.env := by rfl) :
    PE X (.Call (.Name "list" p) [.Call (.Attribute e "values" apos) [] [] cpos] [] pos) (tListVals te) := by
  refine ⟨fun pins s σ H Q I hq => ?_⟩
  refine wpAny_Call_Name_kw (ld_blt I hg hm hv ?_)
  refine PyProof.Rows.callWith_type1 ?_ hs rfl
  rw [hs]
  show wpAny _ _ (spliced ((false, eval (.Call (.Attribute e "values" apos) [] [] cpos) X.env) :: backTo pos (starEach [] X.env))) _ _ s
  refine Calls.spliced_cons ?_
  refine wpAny_Call_method (T := "dict") (id := "dict.values") hbase rfl hline F.plainAttrs_dict F.slot_dict_values F.type_dict_values (thn (he.run pins s σ H _ I hq) fun u s1 ⟨x, H1, I1, rx, d, vs, ex, hd, q⟩ => ?_)
  subst ex
  obtain rfl : u = Value.ref d := rx
  obtain ⟨lo, hz, es, ep, hraw, hsz, hval⟩ := kv_raw I1 hd
  have I2 : Inv X pins σ H1 { s1 with heap := s1.heap.push { cls := .type "dict_values", data := .fields #[.ref d] } } := I1.kept (t' := s1.toks) fun b ob q => Heap.get?_push_of_some _ q
  obtain ⟨o, ho, hex, hdat⟩ := id hraw
  refine ⟨hraw.typeIs, (fun a ea => by cases ea; exact ⟨o, ho, hex.2.1⟩), ?_⟩
  show wpAny _ _ (callWith cpos (.builtin "dict.values") [.ref d] [] []) _ X.xe s1
  refine method_meetsIn F.slot_dict_values F.entry_dict_values rfl (PySem.evalArgs_none ⟨rfl, hraw.typeIs, F.args_dict_values_1 _, _, meets_dict_values_raw d lo, ⟨es, ep, hraw⟩, ?_⟩)
  refine Calls.spliced_nil ?_
  have hraw2 : (s1.heap.push { cls := .type "dict_values", data := .fields #[.ref d] }).DictRaw d es ep := hraw.push _
  refine PySem.W.kdl_call (KdlSrc.rawValues (prog := X.prog) (w := X.w) (r := s1.heap.objs.size) (d := d) (es := es) (ep := ep)) (I1.ok.hd hc) ⟨⟨_, Heap.get?_push_size _ rfl, rfl, rfl⟩, hraw2⟩ (by rw [hsz]; exact hz) fun h' tk acc' c' hkeep hS hacc => ?_
  refine ⟨.ref _, _, I2.laid (o := .lst vs) hkeep (Nat.le_refl _) (show ObjOk X.prog X.w _ _ _ (.lst vs) from ⟨hz, acc'.toList, c', ?_, ?_⟩), rfl, q _ (I2.hok.fresh (Nat.le_refl _))⟩
  · have el : acc'.toList.length = acc'.size := by simp
    refine vals_of_at (by rw [el, hacc.1, hsz]) fun j x w h1 h2 => ?_
    obtain ⟨hi, e⟩ := hacc.2 j w (by rw [← Array.getElem?_toList]; exact h2)
    rw [e]
    exact hval j hi x h1
  · rw [Array.toArray_toList]; exact hS
end
/-- the values of a dict cell -/
inductive ValsA (M : Mp) (a : Addr) : List D → Prop
  | i {kvs : List (Int × D)} : DkI M a kvs → ValsA M a (kvs.map (·.2))
  | t {kvs : List (List Int × D)} : M a = some (.dT kvs) → ValsA M a (kvs.map (·.2))
section
variable {X : Cx} {b : Bs} {δ : Od} {M : Mp} {e : Expr} {Φ : Mp → D → Prop} {Ψ : Xs} {pos p apos cpos : Pos} {a : Addr}
theorem ew_listVals (hc : X.calm = true) (hg : Gl X "list") (hm : X.mg "list" = none) (h : EW X b δ M e (fun M1 d => ∃ a vs, d = .loc (.ref a) ∧ ValsA M1 a vs ∧ Φ M1 (.lst vs)) Ψ) (hbase : attributeBase e "values" X.env (eval e X.env) = eval e X.env := by rfl) (hline : (apos.endLine == cpos.line) = true := by rfl)
    (hs : starEach [.Call (.Attribute e "values" apos) [] [] cpos] X.env = (false, eval (.Call (.Attribute e "values" apos) [] [] cpos) X.env) :: starEach [] X.env := by rfl) : EW X b δ M (.Call (.Name "list" p) [.Call (.Attribute e "values" apos) [] [] cpos] [] pos) Φ Ψ := fun R mR σ H Q S k kx => by
  refine we_of (pe_listVals hc pe_we hg hm (by decide +kernel) hbase hline hs) ?_
  refine h R mR σ H _ S (fun M1 d v H1 p1 S1 => ?_) kx
  obtain ⟨a, vs, rfl, hv, hΦ⟩ := p1
  obtain ⟨G, S1, z1, z2, z3⟩ := S1
  have hd : ∃ ws, DictAtL H1 a ws ∧ Reps X.K G vs ws := by
    cases hv with
    | i h => obtain ⟨ws, h1, h2⟩ := S1.dk h; exact ⟨_, .inl ⟨ws, h1, rfl⟩, RepK.vals (f := keyI) h2⟩
    | t h => obtain ⟨ws, h1, h2⟩ := S1.dt h; exact ⟨_, .inr ⟨ws, .inl h1, rfl⟩, RepK.vals (f := keyT) h2⟩
  obtain ⟨ws, h1, h2⟩ := hd
  refine ⟨a, ws, Rep.loc_iff.mp z3, h1, fun q hq => ?_⟩
  obtain ⟨S2, sg⟩ := S1.frz hq (.lst ws)
  exact k _ _ _ _ hΦ ⟨_, S2, Mono.env _ _ sg z1, mR _ _ sg z2, Rep.lst_iff.mpr ⟨q, ws, rfl, upd_same, h2.mono sg⟩⟩
end
end D4
end

section
set_option maxRecDepth 100000
set_option maxHeartbeats 4000000
namespace D4
open PySem L2
theorem b_len : bootBuiltins "len" = some (.builtin "len") := by decide +kernel
theorem b_max : bootBuiltins "max" = some (.builtin "max") := by decide +kernel
theorem b_min : bootBuiltins "min" = some (.builtin "min") := by decide +kernel
theorem b_all : bootBuiltins "all" = some (.builtin "all") := by decide +kernel
theorem b_sorted : bootBuiltins "sorted" = some (.builtin "sorted") := by decide +kernel
theorem b_isinstance : bootBuiltins "isinstance" = some (.builtin "isinstance") := by decide +kernel
theorem b_list : bootBuiltins "list" = some (.type "list") := by decide +kernel
theorem b_int : bootBuiltins "int" = some (.type "int") := by decide +kernel
theorem b_str : bootBuiltins "str" = some (.type "str") := by decide +kernel
theorem b_dict : bootBuiltins "dict" = some (.type "dict") := by decide +kernel
theorem b_tuple : bootBuiltins "tuple" = some (.type "tuple") := by decide +kernel
theorem b_set : bootBuiltins "set" = some (.type "set") := by decide +kernel
theorem b_bool : bootBuiltins "bool" = some (.type "bool") := by decide +kernel
theorem b_ValueError : bootBuiltins "ValueError" = some (.type "ValueError") := by decide +kernel
theorem b_range : bootBuiltins "range" = some (.type "range") := by decide +kernel
section
variable (P : Program) (w : World) (K : Fg) (mg : Str → Option Value) (base : Heap)
/-- a def of the text, found by its name -/
def FdOk (x : Str) (ps : List Str) (st : Stmt) : Prop := ∃ f fd, Fun K x x st f fd ∧ mg x = some (.ref f) ∧ Binds K fd ps []
/-- it keeps its promise -/
def OkF (x : Str) (ps : List Str) (k : Nat) (S : FSp) : Prop := ∃ f fd, FnOk P w K mg base (L2.CX P w) k f fd ps (spD K S) ∧ mg x = some (.ref f) ∧ PySem.W.keepIn K (.ref f) = true ∧ Binds K fd ps []
end
section
variable {P : Program} {w : World} {K : Fg} {mg : Str → Option Value} {base : Heap}
theorem fnO {x : Str} {st : Stmt} {N ps : List Str} {k : Nat} {S : FSp} (F : FdOk K mg x ps st) (sc : FnScope N ps (defScope st)) (len : ∀ own fr M ds Φ Ψ, S own fr M ds Φ Ψ → ds.length = ps.length)
    (hbody : ∀ (f : Addr) (cdv : Value) (A : Around) (outer : List PySem.Env) (s : Shared) (H : Hp) (E : XK), Room k (cxOf (L2.CX P w) P w K mg base N x (defScope st) f cdv A outer s H E).A →
      ∀ (b : Bs) (M : Mp) (ds : List D) (Φ : Mp → D → Prop) (Ψ : Xs) (fr : Addr → Prop), (∀ p, fr p ↔ Nw b p) → S b.own fr M ds Φ Ψ →
        SWs (cxOf (L2.CX P w) P w K mg base N x (defScope st) f cdv A outer s H E) b (ds.map some ++ List.replicate (N.length - ds.length) none) M (defBody st) ⟨fun M _ => Φ M .non, Φ, fun _ _ => False, fun _ _ => False, fun c M _ => Ψ c M⟩) :
    OkF P w K mg base x ps (k + 1) S := by
  obtain ⟨f, fd, F, g, bd⟩ := F
  exact ⟨f, fd, fnD F sc len (hbody f), g, F.kp, bd⟩
end
section
variable {X : Cx} {b : Bs} {δ : Od} {M : Mp} {e o k e1 e2 tg elt : Expr} {es ifs : List Expr} {Φ : Mp → D → Prop} {Ψ : Xs} {d d1 d2 : D} {ds : List D} {pos p p2 : Pos} {x : Str} {ps : List Str} {j l : Nat} {S : FSp}
theorem ew_callO (G : OkF X.prog X.w X.K X.mg X.base x ps j S) (hr : Room l X.A) (hg : Gl X x) (h : EWs X b δ M (e :: es) (fun M1 ds => CallS b S M1 ds Φ Ψ) Ψ) (hj : j ≤ l := by decide) (hdb : (x == ("__debug__" : Str)) = false := by decide) (he : starEach (e :: es) X.env = (false, eval e X.env) :: starEach es X.env := by exact D4.starEach_c rfl) (hpl : (backTo pos (starEach es X.env)).any (·.1) = false := by exact D4.back_any rfl) :
    EW X b δ M (.Call (.Name x p) (e :: es) [] pos) Φ Ψ := by
  obtain ⟨f, fd, F, g, kp, bd⟩ := G
  exact ew_call F (hr.mono hj) hg g kp bd h hdb he hpl
theorem ev_callO {Pr : Mp → List D → D → Prop} (G : OkF X.prog X.w X.K X.mg X.base x ps j (PureS Pr)) (hr : Room l X.A) (hg : Gl X x) (h : EVs X b δ M (e :: es) ds) (hP : Pr M ds d) (hj : j ≤ l := by decide) (hdb : (x == ("__debug__" : Str)) = false := by decide) (he : starEach (e :: es) X.env = (false, eval e X.env) :: starEach es X.env := by exact D4.starEach_c rfl) (hpl : (backTo pos (starEach es X.env)).any (·.1) = false := by exact D4.back_any rfl) :
    EV X b δ M (.Call (.Name x p) (e :: es) [] pos) d := ew_callO G hr hg (h.to (.pure hP ⟨rfl, rfl⟩)) hj hdb he hpl
/-! ### comprehensions over a list, a range -/
theorem turn0 {scope : Scope} {t : Bool} {f : D} (ht : t = true) (h : ∀ s' H' Cc cl fp, EV (Blk X scope s' H' Cc cl fp) b δ M elt f) : TurnP X scope b δ M [] elt t f := ⟨ht, h⟩
theorem turn1 {scope : Scope} {c : Expr} {t : Bool} {f : D} (ht : ∀ s' H' Cc cl fp, TV (Blk X scope s' H' Cc cl fp) b δ M c t) (h : t = true → ∀ s' H' Cc cl fp, EV (Blk X scope s' H' Cc cl fp) b δ M elt f) : TurnP X scope b δ M [c] elt t f := ⟨ht, h⟩
theorem filter_all {α : Type} {xs : List α} {t : α → Bool} (h : ∀ x, t x = true) : xs.filter t = xs := List.filter_eq_self.mpr fun x _ => h x
section
variable {scope : Scope} {own : List (Str × Nat)} {α : Type} {xs : List α} {enc : α → D} {t : α → Bool} {f : α → D} {js : List Nat} {g : α → List D} {iter : Expr}
theorem lcp_lst {Φ : Mp → List D → Prop} (h : EV X b δ M iter (.lst (xs.map enc))) (hl : xs.length ≤ 100000) (htg : ∀ x ∈ xs, ∀ s' H' Cc cl fp, GS (Blk X scope s' H' Cc cl fp) tg (enc x) js (g x))
    (hturn : ∀ x ∈ xs, ∀ M2, Sub M M2 → TurnP X scope b (setD (wD δ (own.map (·.2))) js (g x)) M2 ifs elt (t x) (f x)) (q : Φ M ((xs.filter t).map f)) : LcP X b δ M scope own tg iter ifs elt xs enc t f js g Φ Ψ :=
  iw_lst (h.to ⟨_, rfl, rfl, hl, fun _ _ => trivial, htg, hturn, q⟩)
theorem ev_lcL (own : List (Str × Nat)) (js : List Nat) (t : α → Bool) (f : α → D) (g : α → List D) (hc : X.calm = true) (hN : X.N.Nodup) (h : EV X b δ M iter (.lst (xs.map enc))) (hl : xs.length ≤ 100000) (htg : ∀ x ∈ xs, ∀ s' H' Cc cl fp, GS (Blk X scope s' H' Cc cl fp) tg (enc x) js (g x))
    (hturn : ∀ x ∈ xs, ∀ M2, Sub M M2 → TurnP X scope b (setD (wD δ (own.map (·.2))) js (g x)) M2 ifs elt (t x) (f x)) (ok : BlkOk X.N X.env.scope scope own := by exact blkOk_by (by dsimp only [L2.cxOf, PyProof.Rows.envOfC]; decide +kernel)) (hif : ifs.length ≤ 1 := by decide) (hjs : ∀ j ∈ js, j ∈ own.map (·.2) := by decide) (hs : ∀ x, foldedSetIterable iter X.env x = pure x := by exact fun _ => rfl) : EV X b δ M (.ListComp elt [⟨tg, iter, ifs, 0⟩] scope pos) (.lst ((xs.filter t).map f)) :=
  ew_lc hc hN ok (lcp_lst h hl htg hturn ⟨rfl, rfl⟩) hif hjs hs
theorem sw_setL (i : Nat) (own : List (Str × Nat)) (js : List Nat) (t : α → Bool) (f : α → D) (g : α → List D) {E : DE} {y : Str} {py spos : Pos} (hc : X.calm = true) (hN : X.N.Nodup) (h : EV X b δ M iter (.lst (xs.map enc))) (hl : xs.length ≤ 100000) (htg : ∀ x ∈ xs, ∀ s' H' Cc cl fp, GS (Blk X scope s' H' Cc cl fp) tg (enc x) js (g x))
    (hturn : ∀ x ∈ xs, ∀ M2, Sub M M2 → TurnP X scope b (setD (wD δ (own.map (·.2))) js (g x)) M2 ifs elt (t x) (f x)) (q : E.nx M (δ.set i (some (.lst ((xs.filter t).map f))))) (ok : BlkOk X.N X.env.scope scope own := by exact blkOk_by (by dsimp only [L2.cxOf, PyProof.Rows.envOfC]; decide +kernel)) (hy : X.N[i]? = some y := by rfl) (hyl : X.env.scope.names.lookup y = some .local := by rfl)
    (hsw : swapsWith (.ListComp elt [⟨tg, iter, ifs, 0⟩] scope pos) (some (.Name y py)) spos.line X.env = pure true := by exact sw_true rfl rfl rfl (by decide +kernel)) (hif : ifs.length ≤ 1 := by decide) (hjs : ∀ j ∈ js, j ∈ own.map (·.2) := by decide) (hs : ∀ x, foldedSetIterable iter X.env x = pure x := by exact fun _ => rfl) : SW X b δ M (.Assign [.Name y py] (.ListComp elt [⟨tg, iter, ifs, 0⟩] scope pos) spos) E :=
  sw_setLc i hc hN ok (lcp_lst h hl htg hturn q) hy hyl hsw hif hjs hs
end
section
variable {scope : Scope} {t : Nat → Bool} {f : Nat → D} {js : List Nat} {g : Nat → List D} {n : Int} {pr : Pos}
theorem lcp_rng {own : List (Str × Nat)} {Φ : Mp → List D → Prop} (hg : Gl X "range") (hm : X.mg "range" = none) (h : EV X b δ M e (.int n)) (h0 : -1000000 ≤ n) (h1 : n ≤ 100000) (htg : ∀ i : Nat, (i : Int) < n → ∀ s' H' Cc cl fp, GS (Blk X scope s' H' Cc cl fp) tg (.int (i : Nat)) js (g i))
    (hturn : ∀ i : Nat, (i : Int) < n → ∀ M2, Sub M M2 → TurnP X scope b (setD (wD δ (own.map (·.2))) js (g i)) M2 ifs elt (t i) (f i)) (q : Φ M (((List.range n.toNat).filter t).map f))
    (hs : starEach [e] X.env = [(false, eval e X.env)] := by exact D4.starEach_1 rfl) (hs1 : starEach [e] X.env = (false, eval e X.env) :: starEach [] X.env := by exact D4.starEach_c rfl) : LcP X b δ M scope own tg (.Call (.Name "range" p) [e] [] pr) ifs elt (List.range n.toNat) (fun i => .int (i : Nat)) t f js g Φ Ψ :=
  iw_range1 hg hm (h.to ⟨n, rfl, h0, by omega, rfl, by rw [List.length_range]; omega, fun _ _ => trivial, fun i hi => htg i (by have := List.mem_range.mp hi; omega), fun i hi => hturn i (by have := List.mem_range.mp hi; omega), q⟩) hs hs1
theorem ev_lcR (own : List (Str × Nat)) (js : List Nat) (t : Nat → Bool) (f : Nat → D) (g : Nat → List D) (hc : X.calm = true) (hN : X.N.Nodup) (hg : Gl X "range") (hm : X.mg "range" = none) (h : EV X b δ M e (.int n)) (h0 : -1000000 ≤ n) (h1 : n ≤ 100000) (htg : ∀ i : Nat, (i : Int) < n → ∀ s' H' Cc cl fp, GS (Blk X scope s' H' Cc cl fp) tg (.int (i : Nat)) js (g i))
    (hturn : ∀ i : Nat, (i : Int) < n → ∀ M2, Sub M M2 → TurnP X scope b (setD (wD δ (own.map (·.2))) js (g i)) M2 ifs elt (t i) (f i)) (ok : BlkOk X.N X.env.scope scope own := by exact blkOk_by (by dsimp only [L2.cxOf, PyProof.Rows.envOfC]; decide +kernel)) (hif : ifs.length ≤ 1 := by decide) (hjs : ∀ j ∈ js, j ∈ own.map (·.2) := by decide)
    (hs : starEach [e] X.env = [(false, eval e X.env)] := by exact D4.starEach_1 rfl) (hs1 : starEach [e] X.env = (false, eval e X.env) :: starEach [] X.env := by exact D4.starEach_c rfl) : EV X b δ M (.ListComp elt [⟨tg, .Call (.Name "range" p) [e] [] pr, ifs, 0⟩] scope pos) (.lst (((List.range n.toNat).filter t).map f)) :=
  ew_lc hc hN ok (lcp_rng hg hm h h0 h1 htg hturn ⟨rfl, rfl⟩ hs hs1) hif hjs (fun _ => rfl)
end
end
/-- an item at an open place -/
theorem at_open {α : Type} {xs : List α} {i : Int} (dflt : α) (h0 : 0 ≤ i) (h1 : i < xs.length) : atI xs i = some (xs.getD i.toNat dflt) := by
  have hi : i.toNat < xs.length := by omega
  have e : (i.toNat : Int) = i := by omega
  have := atI_nat (xs := xs) (j := i.toNat) (v := xs.getD i.toNat dflt) (by rw [List.getD_eq_getElem?_getD]; simp [hi])
  exact e ▸ this
theorem at_map {α β : Type} {xs : List α} {f : α → β} {i : Int} {x : α} (h : atI xs i = some x) : atI (xs.map f) i = some (f x) := by
  unfold atI at h ⊢
  rw [List.length_map]
  cases e : ixN xs.length i with
  | none => rw [e] at h; cases h
  | some j =>
    rw [e] at h
    show (xs.map f)[j]? = _
    rw [List.getElem?_map, show xs[j]? = some x from h]; rfl
theorem o_isB {X : Cx} {b : Bs} {M : Mp} {i j : Bool} : OW X b (compareOp .Is) M (.bl i) (.bl j) (One M (.bl (decide (i = j)))) :=
  ow_of op_isBl fun R mR x y H G Q S z r1 r2 k => ⟨i, j, Rep.bl_iff.mp r1, Rep.bl_iff.mp r2, k M _ _ H ⟨rfl, rfl⟩ ⟨G, S, z, Rep.bl_iff.mpr rfl⟩⟩
end D4
end

section
set_option maxHeartbeats 1000000
/-! M1: plain law of the counts of ends. -/
namespace D4
open PySem L2

def numD : D → Int
  | .int n => n
  | _ => 0
def incD {κ : Type} [DecidableEq κ] (acc : List (κ × D)) (k : κ) : List (κ × D) := putD acc k (.int (numD ((lookD acc k).getD (.int 0)) + 1))
def fullsD {κ : Type} [DecidableEq κ] (ks : List κ) : List (κ × D) := ks.foldl incD []
theorem lookD_map {κ : Type} [DecidableEq κ] (g : κ → D) (k : κ) : ∀ l : List κ, lookD (l.map fun x => (x, g x)) k = if k ∈ l then some (g k) else none
  | [] => rfl
  | x :: l => by
    by_cases e : x = k
    · subst e; simp [lookD]
    · have : lookD ((x :: l).map fun x => (x, g x)) k = lookD (l.map fun x => (x, g x)) k := by simp [lookD, List.find?_cons, e]
      rw [this, lookD_map g k l]
      by_cases h : k ∈ l
      · rw [if_pos h, if_pos (List.mem_cons_of_mem _ h)]
      · rw [if_neg h, if_neg (by simp [h, Ne.symm e])]
theorem putD_map {κ : Type} [DecidableEq κ] (g g' : κ → D) (k : κ) (l : List κ) (hg : ∀ x ∈ l, x ≠ k → g' x = g x) : putD (l.map fun x => (x, g x)) k (g' k) = (if k ∈ l then l else l ++ [k]).map fun x => (x, g' x) := by
  unfold putD
  have ha : ((l.map fun x => (x, g x)).any fun kv => decide (kv.1 = k)) = decide (k ∈ l) := by
    rw [List.any_map]
    induction l with
    | nil => rfl
    | cons x l ih =>
      rw [List.any_cons, ih (fun y h => hg y (List.mem_cons_of_mem _ h))]
      by_cases e : x = k
      · subst e; simp
      · simp [e, Ne.symm e]
  rw [ha]
  by_cases h : k ∈ l
  · rw [if_pos (decide_eq_true h), if_pos h, List.map_map]
    refine List.map_congr_left fun x hx => ?_
    show (if x = k then (x, g' k) else (x, g x)) = (x, g' x)
    by_cases e : x = k
    · subst e; rw [if_pos rfl]
    · rw [if_neg e, hg x hx e]
  · rw [if_neg (by simp [h]), if_neg h, List.map_append]
    congr 1
    refine List.map_congr_left fun x hx => ?_
    rw [hg x hx (fun e => h (e ▸ hx))]
theorem fulls_go {κ : Type} [DecidableEq κ] (ks pre l : List κ) (hn : l.Nodup) (hm : ∀ k, k ∈ l ↔ k ∈ pre) :
    ∃ l' : List κ, l'.Nodup ∧ (∀ k, k ∈ l' ↔ k ∈ pre ++ ks) ∧ ks.foldl incD (l.map fun k => (k, D.int (pre.count k : Nat))) = l'.map fun k => (k, D.int ((pre ++ ks).count k : Nat)) := by
  induction ks generalizing pre l with
  | nil => exact ⟨l, hn, by simpa using hm, by simp⟩
  | cons k ks ih =>
    have step : incD (l.map fun k => (k, D.int (pre.count k : Nat))) k = (if k ∈ l then l else l ++ [k]).map fun x => (x, D.int ((pre ++ [k]).count x : Nat)) := by
      unfold incD
      rw [lookD_map]
      have e : numD ((if k ∈ l then some (D.int (pre.count k : Nat)) else none).getD (.int 0)) = (pre.count k : Nat) := by
        by_cases h : k ∈ l
        · rw [if_pos h]; rfl
        · rw [if_neg h, List.count_eq_zero_of_not_mem (fun z => h ((hm k).mpr z))]; rfl
      rw [e]
      have e2 : D.int ((pre.count k : Nat) + 1) = (fun x => D.int ((pre ++ [k]).count x : Nat)) k := by
        show _ = D.int ((pre ++ [k]).count k : Nat)
        rw [List.count_append, List.count_singleton_self]; rfl
      rw [e2]
      refine putD_map _ (fun x => D.int ((pre ++ [k]).count x : Nat)) k l fun x _ hx => ?_
      show D.int ((pre ++ [k]).count x : Nat) = D.int (pre.count x : Nat)
      rw [List.count_append, List.count_singleton, if_neg (by simpa using Ne.symm hx)]; rfl
    rw [List.foldl_cons, step]
    obtain ⟨l', h1, h2, h3⟩ := ih (pre ++ [k]) (if k ∈ l then l else l ++ [k]) (by
      by_cases h : k ∈ l
      · rw [if_pos h]; exact hn
      · rw [if_neg h, List.nodup_append]
        exact ⟨hn, by simp, by intro a ha b hb e; simp at hb; subst hb; subst e; exact h ha⟩) (by
      intro x
      by_cases h : k ∈ l
      · rw [if_pos h, hm x, List.mem_append]
        constructor
        · exact fun z => .inl z
        · rintro (z | z)
          · exact z
          · simp at z; subst z; exact (hm x).mp h
      · rw [if_neg h, List.mem_append, List.mem_append, hm x])
    exact ⟨l', h1, by simpa using h2, by simpa using h3⟩
theorem fulls_eq {κ : Type} [DecidableEq κ] (ks : List κ) : ∃ l : List κ, l.Nodup ∧ (∀ k, k ∈ l ↔ k ∈ ks) ∧ fullsD ks = l.map fun k => (k, D.int (ks.count k : Nat)) := by
  obtain ⟨l, h1, h2, h3⟩ := fulls_go ks [] [] (by simp) (by simp)
  exact ⟨l, h1, by simpa using h2, by simpa [fullsD] using h3⟩
theorem fulls_look {κ : Type} [DecidableEq κ] (ks : List κ) (k : κ) : lookD (fullsD ks) k = if k ∈ ks then some (D.int (ks.count k : Nat)) else none := by
  obtain ⟨l, h1, h2, h3⟩ := fulls_eq ks
  rw [h3, lookD_map (fun k => D.int (ks.count k : Nat))]
  by_cases h : k ∈ ks
  · rw [if_pos h, if_pos ((h2 k).mpr h)]
  · rw [if_neg h, if_neg (fun z => h ((h2 k).mp z))]
theorem fulls_get {κ : Type} [DecidableEq κ] (ks : List κ) (k : κ) : (lookD (fullsD ks) k).getD (.int 0) = D.int (ks.count k : Nat) := by
  rw [fulls_look]
  by_cases h : k ∈ ks
  · rw [if_pos h]; rfl
  · rw [if_neg h, List.count_eq_zero_of_not_mem h]; rfl
theorem fulls_snoc {κ : Type} [DecidableEq κ] (ks : List κ) (k : κ) : fullsD (ks ++ [k]) = putD (fullsD ks) k (.int ((ks.count k : Nat) + 1)) := by
  unfold fullsD
  rw [List.foldl_append]
  show incD (fullsD ks) k = _
  unfold incD
  rw [fulls_get]
  rfl
theorem nodup_len {α : Type} [DecidableEq α] : ∀ {l m : List α}, l.Nodup → (∀ x ∈ l, x ∈ m) → l.length ≤ m.length
  | [], m, _, _ => Nat.zero_le _
  | x :: l, m, hn, h => by
    have hx : x ∈ m := h x List.mem_cons_self
    have h2 := nodup_len (l := l) (m := m.erase x) (List.nodup_cons.mp hn).2 (fun y hy => by
      refine (List.mem_erase_of_ne (fun e => ?_)).mpr (h y (List.mem_cons_of_mem _ hy))
      subst e; exact (List.nodup_cons.mp hn).1 hy)
    rw [List.length_erase_of_mem hx] at h2
    have := List.length_pos_of_mem hx
    rw [List.length_cons]; omega
theorem fulls_len {κ : Type} [DecidableEq κ] (ks : List κ) : (fullsD ks).length ≤ ks.length := by
  obtain ⟨l, h1, h2, h3⟩ := fulls_eq ks
  rw [h3, List.length_map]
  exact nodup_len h1 (fun k h => (h2 k).mp h)
/-- how full the fullest of these ends is -/
def deg (ks : List Int) : Nat := (ks.map fun k => ks.count k).foldl max 0
theorem foldl_max_le {l : List Nat} {a n : Nat} (ha : a ≤ n) (h : ∀ x ∈ l, x ≤ n) : l.foldl max a ≤ n := by
  induction l generalizing a with
  | nil => exact ha
  | cons x l ih => exact ih (Nat.max_le.mpr ⟨ha, h x List.mem_cons_self⟩) fun y hy => h y (List.mem_cons_of_mem _ hy)
theorem le_foldl_max {l : List Nat} {a : Nat} : a ≤ l.foldl max a := by
  induction l generalizing a with
  | nil => exact Nat.le_refl _
  | cons x l ih => exact Nat.le_trans (Nat.le_max_left _ _) ih
theorem mem_le_foldl_max {l : List Nat} {a x : Nat} (h : x ∈ l) : x ≤ l.foldl max a := by
  induction l generalizing a with
  | nil => cases h
  | cons y l ih =>
    rcases List.mem_cons.mp h with e | h
    · subst e; exact Nat.le_trans (Nat.le_max_right _ _) le_foldl_max
    · exact ih h
theorem foldl_max_mem (l : List Nat) (a : Nat) : l.foldl max a = a ∨ l.foldl max a ∈ l := by
  induction l generalizing a with
  | nil => exact .inl rfl
  | cons x l ih =>
    rcases ih (max a x) with e | e
    · rw [List.foldl_cons, e]
      rcases Nat.le_total a x with h | h
      · rw [Nat.max_eq_right h]; exact .inr List.mem_cons_self
      · rw [Nat.max_eq_left h]; exact .inl rfl
    · exact .inr (List.mem_cons_of_mem _ e)
theorem count_le_deg (ks : List Int) (k : Int) : ks.count k ≤ deg ks := by
  by_cases h : k ∈ ks
  · exact mem_le_foldl_max (List.mem_map.mpr ⟨k, h, rfl⟩)
  · rw [List.count_eq_zero_of_not_mem h]; exact Nat.zero_le _
theorem deg_mem (ks : List Int) : deg ks = 0 ∨ ∃ k ∈ ks, deg ks = ks.count k := by
  rcases foldl_max_mem (ks.map fun k => ks.count k) 0 with h | h
  · exact .inl h
  · obtain ⟨k, h1, h2⟩ := List.mem_map.mp h
    exact .inr ⟨k, h1, h2.symm⟩
theorem deg_le_len (ks : List Int) : deg ks ≤ ks.length := foldl_max_le (Nat.zero_le _) fun x hx => by
  obtain ⟨k, _, rfl⟩ := List.mem_map.mp hx
  exact List.count_le_length
/-- the count of rows with these ends -/
def cntOf (ls rs : List Int) : Nat := max (deg ls) (deg rs)
theorem cnt_max (ls rs : List Int) : ∃ ns : List Int, (([D.int 0] ++ (fullsD ls).map (·.2)) ++ (fullsD rs).map (·.2)) = ns.map D.int ∧ ((cntOf ls rs : Nat) : Int) ∈ ns ∧ ∀ y ∈ ns, y ≤ ((cntOf ls rs : Nat) : Int) := by
  obtain ⟨l1, a1, a2, a3⟩ := fulls_eq ls
  obtain ⟨l2, b1, b2, b3⟩ := fulls_eq rs
  refine ⟨[0] ++ l1.map (fun k => ((ls.count k : Nat) : Int)) ++ l2.map (fun k => ((rs.count k : Nat) : Int)), by rw [a3, b3]; simp [List.map_append, List.map_map, Function.comp_def], ?_, ?_⟩
  · unfold cntOf
    rcases Nat.le_total (deg ls) (deg rs) with h | h
    · rw [Nat.max_eq_right h]
      rcases deg_mem rs with e | ⟨k, hk, e⟩
      · rw [e]; simp
      · rw [e]; simp only [List.mem_append, List.mem_map]; exact .inr ⟨k, (b2 k).mpr hk, rfl⟩
    · rw [Nat.max_eq_left h]
      rcases deg_mem ls with e | ⟨k, hk, e⟩
      · rw [e]; simp
      · rw [e]; simp only [List.mem_append, List.mem_map]; exact .inl (.inr ⟨k, (a2 k).mpr hk, rfl⟩)
  · intro y hy
    have c1 := count_le_deg ls
    have c2 := count_le_deg rs
    have d1 : deg ls ≤ cntOf ls rs := Nat.le_max_left _ _
    have d2 : deg rs ≤ cntOf ls rs := Nat.le_max_right _ _
    simp only [List.mem_append, List.mem_map, List.mem_singleton] at hy
    rcases hy with (e | ⟨k, _, e⟩) | ⟨k, _, e⟩
    · omega
    · have := c1 k; omega
    · have := c2 k; omega
theorem cnt_le_len (ls rs : List Int) (h : ls.length = rs.length) : cntOf ls rs ≤ ls.length := Nat.max_le.mpr ⟨deg_le_len ls, by rw [h]; exact deg_le_len rs⟩
/-- rows, tuples that have an int at that place -/
abbrev Keyed (side : Int) (rs : List D) (ks : List Int) : Prop := Paired (fun r k => ∃ fs, r = D.tup fs ∧ atI fs side = some (.int k)) rs ks
theorem Keyed.get {side : Int} {rs : List D} {ks : List Int} (h : Keyed side rs ks) : ∀ {i : Nat} {r : D}, rs[i]? = some r → ∃ fs k, r = .tup fs ∧ atI fs side = some (.int k) ∧ ks[i]? = some k := by
  induction h with
  | nil => intro i r e; simp at e
  | @cons r k l l' h t ih =>
    intro i r' e
    cases i with
    | zero =>
      have e : r = r' := by simpa using e
      subst e
      obtain ⟨fs, h1, h2⟩ := h
      exact ⟨fs, k, h1, h2, rfl⟩
    | succ i => simpa using ih (by simpa using e)
theorem Keyed.len {side : Int} {rs : List D} {ks : List Int} (h : Keyed side rs ks) : rs.length = ks.length := Paired.length h
theorem Keyed.of {α : Type} {side : Int} (enc : α → List D) (k : α → Int) (h : ∀ x, atI (enc x) side = some (.int (k x))) : ∀ xs : List α, Keyed side (xs.map fun x => .tup (enc x)) (xs.map k)
  | [] => .nil
  | x :: xs => .cons ⟨_, rfl, h x⟩ (Keyed.of enc k h xs)
end D4
end

section
set_option maxRecDepth 100000
set_option maxHeartbeats 4000000
/-! M8: rows of three, plain mathematics. -/
namespace K8
open PySem L2 D4
abbrev Row := Int × Int × Int
def enc3 (x : Row) : List D := [.int x.1, .int x.2.1, .int x.2.2]
def enc2 (x : Row) : List D := [.int x.1, .int x.2.1]
def endOf (s : Nat) (x : Row) : Int := if s = 0 then x.1 else x.2.1
def encs (xs : List Row) : List D := xs.map fun x => .tup (enc3 x)
def keyOf (s : Nat) (x : Row) : List Int := [endOf s x, x.2.2]
def cntR (xs : List Row) : Nat := cntOf (xs.map (endOf 0)) (xs.map (endOf 1))
def sideOk (s : Nat) (xs : List Row) : Prop := (xs.map (keyOf s)).Nodup
instance (s : Nat) (xs : List Row) : Decidable (sideOk s xs) := inferInstanceAs (Decidable (List.Nodup _))
def goodB (xs : List Row) : Bool := decide (sideOk 0 xs) && decide (sideOk 1 xs) && xs.all fun x => decide (x.2.2 < cntR xs)
def clash (a b : Row) : Bool := decide (a.2.2 = b.2.2) && (decide (a.1 = b.1) || decide (a.2.1 = b.2.1))
def dueB (xs : List Row) : Bool := decide (xs.Pairwise fun a b => clash a b = false) && decide ((xs.filter fun x => decide ((cntR xs : Int) ≤ x.2.2)) = [])
theorem good_due (xs : List Row) : goodB xs = dueB xs := by
  have h1 : (sideOk 0 xs ∧ sideOk 1 xs) ↔ xs.Pairwise fun a b => clash a b = false := by
    unfold sideOk List.Nodup
    rw [List.pairwise_map, List.pairwise_map, ← List.pairwise_and_iff]
    refine List.Pairwise.iff_of_mem fun {a b} _ _ => ?_
    obtain ⟨a1, a2, a3⟩ := a
    obtain ⟨b1, b2, b3⟩ := b
    simp only [keyOf, endOf, clash, ne_eq, List.cons.injEq, and_true, if_pos, Nat.one_ne_zero, if_false, Bool.and_eq_false_iff, decide_eq_false_iff_not, Bool.or_eq_false_iff]
    constructor
    · rintro ⟨h1, h2⟩
      by_cases h : a3 = b3
      · exact .inr ⟨fun e => h1 ⟨e, h⟩, fun e => h2 ⟨e, h⟩⟩
      · exact .inl h
    · rintro (h | ⟨h1, h2⟩)
      · exact ⟨fun e => h e.2, fun e => h e.2⟩
      · exact ⟨fun e => h1 e.1, fun e => h2 e.1⟩
  have h2 : (xs.all fun x => decide (x.2.2 < cntR xs)) = decide ((xs.filter fun x => decide ((cntR xs : Int) ≤ x.2.2)) = []) := by
    rw [Bool.eq_iff_iff]
    simp only [List.all_eq_true, decide_eq_true_eq, List.filter_eq_nil_iff]
    exact ⟨fun h a ha => by have := h a ha; omega, fun h a ha => by have := h a ha; omega⟩
  unfold goodB dueB
  rw [h2, ← Bool.decide_and, decide_eq_decide.mpr h1]
theorem keyed (s : Nat) (hs : s < 2) (xs : List Row) : Keyed (s : Nat) (encs xs) (xs.map (endOf s)) := by
  refine Keyed.of enc3 (endOf s) (fun x => ?_) xs
  rcases (show s = 0 ∨ s = 1 by omega) with rfl | rfl <;> rfl
theorem keyed2 (s : Nat) (hs : s < 2) (xs : List Row) : Keyed (s : Nat) (xs.map fun x => .tup (enc2 x)) (xs.map (endOf s)) := by
  refine Keyed.of enc2 (endOf s) (fun x => ?_) xs
  rcases (show s = 0 ∨ s = 1 by omega) with rfl | rfl <;> rfl
theorem encs_len (xs : List Row) : (encs xs).length = xs.length := List.length_map _
theorem encs_get {xs : List Row} {i : Nat} {d : D} (h : (encs xs)[i]? = some d) : ∃ x, xs[i]? = some x ∧ d = .tup (enc3 x) := by
  unfold encs at h
  rw [List.getElem?_map] at h
  cases q : xs[i]? with
  | none => rw [q] at h; cases h
  | some x => rw [q] at h; cases h; exact ⟨x, rfl, rfl⟩
/-- the law's many: the greatest count of an end -/
def manyGo (f : Int) (ks : List Int) : Int := (ks.map fun k => ((ks.count k : Nat) : Int)).foldl max f
theorem manyGo_nat (f : Nat) (ks : List Int) : manyGo f ks = ((ks.map fun k => ks.count k).foldl max f : Nat) := by
  unfold manyGo
  suffices h : ∀ (l : List Int) (f : Nat), (l.map fun k => ((ks.count k : Nat) : Int)).foldl max (f : Int) = ((l.map fun k => ks.count k).foldl max f : Nat) from h ks f
  intro l
  induction l with
  | nil => intro f; rfl
  | cons a l ih => intro f; simp only [List.map_cons, List.foldl_cons]; rw [show max (f : Int) (ks.count a : Nat) = ((max f (ks.count a) : Nat) : Int) by omega]; exact ih _
theorem foldl_max0 (l : List Nat) (f : Nat) : l.foldl max f = max f (l.foldl max 0) := by
  induction l generalizing f with
  | nil => simp
  | cons a l ih => simp only [List.foldl_cons]; rw [ih (max f a), ih (max 0 a)]; omega
theorem many_eq (ls rs : List Int) : manyGo (manyGo 0 ls) rs = cntOf ls rs := by
  have h1 : manyGo 0 ls = ((deg ls : Nat) : Int) := manyGo_nat 0 ls
  rw [h1, manyGo_nat, foldl_max0]
  rfl
theorem look_isSome {α κ : Type} [DecidableEq κ] (f : α → κ) (d : D) (k : κ) (xs : List α) : (lookD (xs.map fun x => (f x, d)) k).isSome = true ↔ k ∈ xs.map f := by
  unfold lookD
  rw [Option.isSome_map, List.find?_isSome]
  simp only [List.mem_map, decide_eq_true_eq]
  constructor
  · rintro ⟨_, ⟨a, ha, rfl⟩, e⟩; exact ⟨a, ha, e⟩
  · rintro ⟨a, ha, e⟩; exact ⟨_, ⟨a, ha, rfl⟩, e⟩
theorem max_go (acc : Int) : ∀ l : List Int, l.foldl max acc ∈ acc :: l ∧ ∀ y ∈ acc :: l, y ≤ l.foldl max acc := fun l => by
  induction l generalizing acc with
  | nil => exact ⟨by simp, by simp⟩
  | cons a l ih =>
    obtain ⟨h1, h2⟩ := ih (max acc a)
    rw [List.foldl_cons]
    refine ⟨?_, ?_⟩
    · rcases List.mem_cons.mp h1 with h | h
      · rcases (show max acc a = acc ∨ max acc a = a by omega) with e | e
        · rw [h, e]; simp
        · rw [h, e]; simp
      · exact List.mem_cons_of_mem _ (List.mem_cons_of_mem _ h)
    · intro y hy
      have h0 := h2 (max acc a) List.mem_cons_self
      rcases List.mem_cons.mp hy with h | h
      · omega
      · rcases List.mem_cons.mp h with h | h
        · omega
        · exact h2 y (List.mem_cons_of_mem _ h)
end K8
end

section
set_option maxHeartbeats 1000000
/-! M2: rows by number, hues at ends, chains: plain mathematics. -/
namespace Ph
open PySem L2 D4 K8
abbrev Rows := List (Int × Row)
def encR (rs : Rows) : List (Int × D) := rs.map fun x => (x.1, .tup (enc3 x.2))
abbrev hueOf (x : Row) : Int := x.2.2
def look (rs : Rows) (n : Int) : Option Row := (rs.find? fun x => decide (x.1 = n)).map (·.2)
def keys (rs : Rows) : List Int := rs.map (·.1)
def put (rs : Rows) (n : Int) (r : Row) : Rows := if n ∈ keys rs then rs.map (fun x => if x.1 = n then (x.1, r) else x) else rs ++ [(n, r)]
theorem encR_len (rs : Rows) : (encR rs).length = rs.length := List.length_map _
theorem lookD_encR (rs : Rows) (n : Int) : lookD (encR rs) n = (look rs n).map fun r => .tup (enc3 r) := by
  unfold lookD encR look
  rw [List.find?_map, Option.map_map, Option.map_map]
  rfl
theorem keysD_any (rs : Rows) (n : Int) : ((encR rs).any fun kv => decide (kv.1 = n)) = decide (n ∈ keys rs) := by
  rw [Bool.eq_iff_iff]
  simp only [List.any_eq_true, decide_eq_true_eq, encR, keys, List.mem_map]
  constructor
  · rintro ⟨_, ⟨x, hx, rfl⟩, e⟩; exact ⟨x, hx, e⟩
  · rintro ⟨x, hx, e⟩; exact ⟨_, ⟨x, hx, rfl⟩, e⟩
theorem putD_encR (rs : Rows) (n : Int) (r : Row) : putD (encR rs) n (.tup (enc3 r)) = encR (put rs n r) := by
  unfold putD put
  rw [keysD_any]
  by_cases h : n ∈ keys rs
  · rw [decide_eq_true h, if_pos rfl, if_pos h]
    unfold encR
    rw [List.map_map, List.map_map]
    refine List.map_congr_left fun x _ => ?_
    show (if x.1 = n then (x.1, D.tup (enc3 r)) else (x.1, D.tup (enc3 x.2))) = _
    by_cases e : x.1 = n
    · simp [e]
    · simp [e]
  · rw [decide_eq_false h, if_neg (by decide), if_neg h]
    unfold encR
    rw [List.map_append]; rfl
theorem look_mem {rs : Rows} {n : Int} {r : Row} (h : look rs n = some r) : (n, r) ∈ rs := by
  unfold look at h
  cases q : rs.find? (fun x => decide (x.1 = n)) with
  | none => rw [q] at h; cases h
  | some x =>
    rw [q] at h
    cases h
    have h1 := List.mem_of_find?_eq_some q
    have h2 := List.find?_some q
    simp only [decide_eq_true_eq] at h2
    rw [← h2]; exact h1
theorem look_of {rs : Rows} (hn : (keys rs).Nodup) {n : Int} {r : Row} (h : (n, r) ∈ rs) : look rs n = some r := by
  unfold look
  induction rs with
  | nil => cases h
  | cons x xs ih =>
    rw [List.find?_cons]
    unfold keys at hn
    rw [List.map_cons, List.nodup_cons] at hn
    rcases List.mem_cons.mp h with e | h'
    · subst e; simp
    · have hne : x.1 ≠ n := fun e => hn.1 (e ▸ List.mem_map.mpr ⟨_, h', rfl⟩)
      rw [decide_eq_false hne]
      exact ih hn.2 h'
theorem look_none {rs : Rows} {n : Int} : look rs n = none ↔ n ∉ keys rs := by
  unfold look keys
  rw [Option.map_eq_none_iff, List.find?_eq_none]
  simp only [decide_eq_true_eq, List.mem_map, not_exists, not_and]
/-! ### the index -/
def idx (rs : Rows) (s : Nat) (e h : Int) : Option Int := (rs.reverse.find? fun x => decide (endOf s x.2 = e) && decide (hueOf x.2 = h)).map (·.1)
theorem idx_snoc (rs : Rows) (x : Int × Row) (s : Nat) (e h : Int) : idx (rs ++ [x]) s e h = if endOf s x.2 = e ∧ hueOf x.2 = h then some x.1 else idx rs s e h := by
  unfold idx
  rw [List.reverse_append, List.reverse_cons, List.reverse_nil, List.nil_append, List.singleton_append, List.find?_cons]
  by_cases c : endOf s x.2 = e ∧ hueOf x.2 = h
  · rw [if_pos c, decide_eq_true c.1, decide_eq_true c.2]; rfl
  · rw [if_neg c]
    have : (decide (endOf s x.2 = e) && decide (hueOf x.2 = h)) = false := by
      rw [← Bool.decide_and]; exact decide_eq_false c
    rw [this]
theorem idx_some {rs : Rows} {s : Nat} {e h n : Int} (q : idx rs s e h = some n) : ∃ r, (n, r) ∈ rs ∧ endOf s r = e ∧ hueOf r = h := by
  unfold idx at q
  cases f : rs.reverse.find? (fun x => decide (endOf s x.2 = e) && decide (hueOf x.2 = h)) with
  | none => rw [f] at q; cases q
  | some x =>
    rw [f] at q; cases q
    have h1 := List.mem_of_find?_eq_some f
    have h2 := List.find?_some f
    simp only [Bool.and_eq_true, decide_eq_true_eq] at h2
    exact ⟨x.2, List.mem_reverse.mp h1, h2.1, h2.2⟩
theorem idx_none {rs : Rows} {s : Nat} {e h : Int} : idx rs s e h = none ↔ ∀ x ∈ rs, endOf s x.2 = e → hueOf x.2 ≠ h := by
  unfold idx
  rw [Option.map_eq_none_iff, List.find?_eq_none]
  simp only [List.mem_reverse, Bool.and_eq_true, decide_eq_true_eq, not_and]
  first | done | exact Iff.rfl
/-- no two that meet have one hue -/
def Proper (rs : Rows) : Prop := ∀ x ∈ rs, ∀ y ∈ rs, ∀ s < 2, endOf s x.2 = endOf s y.2 → hueOf x.2 = hueOf y.2 → x = y
theorem idx_of {rs : Rows} (P : Proper rs) {x : Int × Row} (hx : x ∈ rs) {s : Nat} (hs : s < 2) : idx rs s (endOf s x.2) (hueOf x.2) = some x.1 := by
  cases q : idx rs s (endOf s x.2) (hueOf x.2) with
  | none => exact absurd rfl (idx_none.mp q x hx rfl)
  | some n =>
    obtain ⟨r, h1, h2, h3⟩ := idx_some q
    have := P _ h1 _ hx s hs h2 h3
    rw [← this]
def indexD (rs : Rows) : List (List Int × D) := rs.foldl (fun acc x => putD (putD acc [0, x.2.1, hueOf x.2] (.int x.1)) [1, x.2.2.1, hueOf x.2] (.int x.1)) []
theorem lookD_putD {κ : Type} [DecidableEq κ] (acc : List (κ × D)) (k k' : κ) (d : D) : lookD (putD acc k d) k' = if k = k' then some d else lookD acc k' := by
  unfold lookD putD
  by_cases h : (acc.any fun kv => decide (kv.1 = k)) = true
  · rw [if_pos h]
    induction acc with
    | nil => simp at h
    | cons x xs ih =>
      rw [List.map_cons, List.find?_cons, List.find?_cons]
      by_cases e : x.1 = k
      · rw [if_pos e]
        by_cases e2 : k = k'
        · have : x.1 = k' := e.trans e2
          simp only [this, decide_true, if_pos e2]; simp
        · have : x.1 ≠ k' := fun z => e2 (e.symm.trans z)
          simp only [decide_eq_false this, if_neg e2]
          by_cases h2 : (xs.any fun kv => decide (kv.1 = k)) = true
          · have := ih h2; rw [if_neg e2] at this; exact this
          · congr 2
            refine (List.map_congr_left fun y hy => ?_).trans (List.map_id _)
            have : y.1 ≠ k := fun z => h2 (List.any_eq_true.mpr ⟨y, hy, decide_eq_true z⟩)
            rw [if_neg this]; rfl
      · rw [if_neg e]
        have h2 : (xs.any fun kv => decide (kv.1 = k)) = true := by
          rw [List.any_cons, decide_eq_false e, Bool.false_or] at h; exact h
        by_cases e3 : x.1 = k'
        · have : ¬ k = k' := fun z => e (e3.trans z.symm)
          simp [e3, this]
        · simp only [decide_eq_false e3]
          exact ih h2
  · rw [if_neg h]
    rw [List.find?_append]
    by_cases e : k = k'
    · subst e
      have : acc.find? (fun kv => decide (kv.1 = k)) = none := by
        rw [List.find?_eq_none]
        intro x hx z
        exact h (List.any_eq_true.mpr ⟨x, hx, z⟩)
      rw [this, if_pos rfl]
      simp
    · rw [if_neg e]
      simp [e]
theorem index_look (rs : Rows) (s : Nat) (hs : s < 2) (e h : Int) : lookD (indexD rs) [(s : Int), e, h] = (idx rs s e h).map D.int := by
  unfold indexD
  suffices H : ∀ n, lookD ((rs.take n).foldl (fun acc x => putD (putD acc [0, x.2.1, hueOf x.2] (.int x.1)) [1, x.2.2.1, hueOf x.2] (.int x.1)) []) [(s : Int), e, h] = (idx (rs.take n) s e h).map D.int by
    have := H rs.length
    rwa [List.take_length] at this
  intro n
  induction n with
  | zero => rfl
  | succ n ih =>
    by_cases hn : n < rs.length
    · have ex : rs[n]? = some rs[n] := by simp [hn]
      rw [take_snoc ex, List.foldl_append, List.foldl_cons, List.foldl_nil, lookD_putD, lookD_putD, ih, idx_snoc]
      generalize rs[n] = x
      rcases (show s = 0 ∨ s = 1 by omega) with rfl | rfl
      · have h1 : ¬ ([1, x.2.2.1, hueOf x.2] : List Int) = [((0 : Nat) : Int), e, h] := fun z => by injection z with z _; exact absurd z (by decide)
        rw [if_neg h1]
        by_cases c : endOf 0 x.2 = e ∧ hueOf x.2 = h
        · rw [if_pos c, if_pos]; rfl
          rw [← c.1, ← c.2]; rfl
        · rw [if_neg c, if_neg]
          intro z
          injection z with _ z; injection z with z1 z; injection z with z2 _
          exact c ⟨z1, z2⟩
      · by_cases c : endOf 1 x.2 = e ∧ hueOf x.2 = h
        · rw [if_pos c, if_pos]; rfl
          rw [← c.1, ← c.2]; rfl
        · rw [if_neg c, if_neg, if_neg]
          · intro z
            injection z with z _; exact absurd z (by decide)
          · intro z
            injection z with _ z; injection z with z1 z; injection z with z2 _
            exact c ⟨z1, z2⟩
    · rw [List.take_of_length_le (by omega)]
      rw [List.take_of_length_le (by omega)] at ih
      exact ih
theorem putD_len {κ : Type} [DecidableEq κ] (acc : List (κ × D)) (k : κ) (d : D) : (putD acc k d).length ≤ acc.length + 1 := by
  unfold putD
  split
  · rw [List.length_map]; omega
  · rw [List.length_append]; exact Nat.le_refl _
theorem index_len (rs : Rows) : (indexD rs).length ≤ 2 * rs.length := by
  unfold indexD
  suffices H : ∀ (rs : Rows) (acc : List (List Int × D)), (rs.foldl (fun acc x => putD (putD acc [0, x.2.1, hueOf x.2] (.int x.1)) [1, x.2.2.1, hueOf x.2] (.int x.1)) acc).length ≤ acc.length + 2 * rs.length from by simpa using H rs []
  intro rs
  induction rs with
  | nil => intro acc; simp
  | cons x xs ih =>
    intro acc
    rw [List.foldl_cons]
    have h1 := ih (putD (putD acc [0, x.2.1, hueOf x.2] (.int x.1)) [1, x.2.2.1, hueOf x.2] (.int x.1))
    have h2 := putD_len (putD acc [0, x.2.1, hueOf x.2] (.int x.1)) [1, x.2.2.1, hueOf x.2] (.int x.1)
    have h3 := putD_len acc [0, x.2.1, hueOf x.2] (.int x.1)
    rw [List.length_cons]; omega
/-! ### the free hues -/
def free (rs : Rows) (s : Nat) (e : Int) (many : Nat) : List Int := ((List.range many).filter fun h : Nat => (idx rs s e (h : Int)).isNone).map fun h : Nat => (h : Int)
theorem mem_free {rs : Rows} {s : Nat} {e : Int} {many : Nat} {h : Int} : h ∈ free rs s e many ↔ 0 ≤ h ∧ h < many ∧ idx rs s e h = none := by
  unfold free
  simp only [List.mem_map, List.mem_filter, List.mem_range, Option.isNone_iff_eq_none]
  constructor
  · rintro ⟨i, ⟨h1, h2⟩, rfl⟩; exact ⟨by omega, by omega, h2⟩
  · rintro ⟨h0, h1, h2⟩
    have e : ((h.toNat : Nat) : Int) = h := by omega
    exact ⟨h.toNat, ⟨by omega, by rw [e]; exact h2⟩, e⟩
theorem free_len (rs : Rows) (s : Nat) (e : Int) (many : Nat) : (free rs s e many).length ≤ many := by
  unfold free
  rw [List.length_map]
  exact Nat.le_trans (List.length_filter_le _ _) (by rw [List.length_range]; exact Nat.le_refl _)
/-! ### chains -/
def rowOf (rs : Rows) (n : Int) : Row := (look rs n).getD (0, 0, 0)
def chainF (rs : Rows) : Nat → Nat → Int → Int → Int → List Int
  | 0, _, _, _, _ => []
  | f + 1, s, e, w, o => match idx rs s e w with
    | none => []
    | some n => n :: chainF rs f (1 - s) (endOf (1 - s) (rowOf rs n)) o w
/-- the chain from (s, e): first a pair of hue w, then one of hue o, .. -/
def chain (rs : Rows) (s : Nat) (e w o : Int) : List Int := chainF rs (2 * rs.length + 1) s e w o
inductive Ch (rs : Rows) : Nat → Int → Int → Int → List Int → Prop
  | stop {s : Nat} {e w o : Int} : idx rs s e w = none → Ch rs s e w o []
  | step {s : Nat} {e w o n : Int} {ns : List Int} : idx rs s e w = some n → Ch rs (1 - s) (endOf (1 - s) (rowOf rs n)) o w ns → Ch rs s e w o (n :: ns)
theorem Ch.det {rs : Rows} : ∀ {ns ms : List Int} {s : Nat} {e w o : Int}, Ch rs s e w o ns → Ch rs s e w o ms → ns = ms
  | _, _, _, _, _, _, .stop h, .stop _ => rfl
  | _, _, _, _, _, _, .stop h, .step h' _ => by rw [h] at h'; cases h'
  | _, _, _, _, _, _, .step h _, .stop h' => by rw [h] at h'; cases h'
  | _, _, _, _, _, _, .step h t, .step h' t' => by rw [h] at h'; cases h'; rw [Ch.det t t']
structure Sx where
  s : Nat
  e : Int
  w : Int
  o : Int
def nextX (rs : Rows) (x : Sx) : Option Sx := (idx rs x.s x.e x.w).map fun n => ⟨1 - x.s, endOf (1 - x.s) (rowOf rs n), x.o, x.w⟩
inductive Path (rs : Rows) (x0 : Sx) : List Sx → Sx → Prop
  | nil : Path rs x0 [] x0
  | cons {V : List Sx} {x y : Sx} : Path rs x0 V x → nextX rs x = some y → Path rs x0 (x :: V) y
theorem Path.back {rs : Rows} {x0 : Sx} {V : List Sx} {x : Sx} (p : Path rs x0 V x) : ∀ y ∈ x :: V, y = x0 ∨ ∃ u ∈ V, nextX rs u = some y := by
  induction p with
  | nil => intro y hy; rw [List.mem_singleton.mp hy]; exact .inl rfl
  | @cons V x z p h ih =>
    intro y hy
    rcases List.mem_cons.mp hy with e | hy
    · subst e; exact .inr ⟨x, List.mem_cons_self, h⟩
    · rcases ih y hy with e | ⟨u, hu, hn⟩
      · exact .inl e
      · exact .inr ⟨u, List.mem_cons_of_mem _ hu, hn⟩
theorem rowOf_of {rs : Rows} (hn : (keys rs).Nodup) {n : Int} {r : Row} (h : (n, r) ∈ rs) : rowOf rs n = r := by unfold rowOf; rw [look_of hn h]; rfl
theorem nextX_some {rs : Rows} (hn : (keys rs).Nodup) {x y : Sx} (h : nextX rs x = some y) : ∃ n r, (n, r) ∈ rs ∧ idx rs x.s x.e x.w = some n ∧ endOf x.s r = x.e ∧ hueOf r = x.w ∧ y = ⟨1 - x.s, endOf (1 - x.s) r, x.o, x.w⟩ := by
  unfold nextX at h
  cases q : idx rs x.s x.e x.w with
  | none => rw [q] at h; cases h
  | some n =>
    rw [q] at h
    obtain ⟨r, h1, h2, h3⟩ := idx_some q
    refine ⟨n, r, h1, rfl, h2, h3, ?_⟩
    have := Option.some.inj h
    rw [← this]
    show (⟨1 - x.s, endOf (1 - x.s) (rowOf rs n), x.o, x.w⟩ : Sx) = _
    rw [rowOf_of hn h1]
theorem Path.side {rs : Rows} {x0 : Sx} {V : List Sx} {x : Sx} (p : Path rs x0 V x) (h0 : x0.s < 2) : ∀ y ∈ x :: V, y.s < 2 ∧ ((y.w = x0.w ∧ y.o = x0.o) ∨ (y.w = x0.o ∧ y.o = x0.w)) := by
  induction p with
  | nil => intro y hy; rw [List.mem_singleton.mp hy]; exact ⟨h0, .inl ⟨rfl, rfl⟩⟩
  | @cons V x z p h ih =>
    intro y hy
    rcases List.mem_cons.mp hy with e | hy
    · subst e
      have hx := ih x List.mem_cons_self
      unfold nextX at h
      cases q : idx rs x.s x.e x.w with
      | none => rw [q] at h; cases h
      | some n =>
        rw [q] at h
        have := Option.some.inj h
        subst this
        refine ⟨by show 1 - x.s < 2; omega, ?_⟩
        rcases hx.2 with h | h
        · exact .inr ⟨h.2, h.1⟩
        · exact .inl ⟨h.2, h.1⟩
    · exact ih y hy
theorem nextX_inj {rs : Rows} (P : Proper rs) (hn : (keys rs).Nodup) {x x' y : Sx} (h1 : nextX rs x = some y) (h2 : nextX rs x' = some y) (s1 : x.s < 2) (s2 : x'.s < 2) : x = x' := by
  obtain ⟨n, r, a1, a2, a3, a4, a5⟩ := nextX_some hn h1
  obtain ⟨n', r', b1, b2, b3, b4, b5⟩ := nextX_some hn h2
  rw [a5] at b5
  injection b5 with e1 e2 e3 e4
  have es : x.s = x'.s := by omega
  rw [← es] at e2
  have er := P _ a1 _ b1 (1 - x.s) (by omega) e2 (by rw [a4, b4]; exact e4)
  injection er with en er
  obtain ⟨s, e, w, o⟩ := x
  obtain ⟨s', e', w', o'⟩ := x'
  simp only at es e3 e4 a3 b3
  subst es e3 e4
  rw [← a3, ← b3, er]
theorem Path.fresh {rs : Rows} (P : Proper rs) (hn : (keys rs).Nodup) {x0 : Sx} (h0 : x0.s < 2) (hf : idx rs x0.s x0.e x0.o = none) {V : List Sx} {x : Sx} (p : Path rs x0 V x) : x ∉ V ∧ V.Nodup := by
  induction p with
  | nil => exact ⟨by simp, List.nodup_nil⟩
  | @cons V x y p h ih =>
    refine ⟨fun hy => ?_, List.nodup_cons.mpr ih⟩
    rcases p.back y hy with e | ⟨u, hu, hn'⟩
    · subst e
      obtain ⟨n, r, a1, a2, a3, a4, a5⟩ := nextX_some hn h
      have e1 : y.e = endOf y.s r := by rw [a5]
      have e2 : y.o = hueOf r := by rw [a5]; exact a4.symm
      rw [e1, e2] at hf
      exact idx_none.mp hf _ a1 rfl rfl
    · have := nextX_inj P hn h hn' (p.side h0 x List.mem_cons_self).1 (p.side h0 u (List.mem_cons_of_mem _ hu)).1
      rw [this] at ih
      exact ih.1 hu
theorem Path.len {rs : Rows} (P : Proper rs) (hn : (keys rs).Nodup) {x0 : Sx} (h0 : x0.s < 2) (hf : idx rs x0.s x0.e x0.o = none) {V : List Sx} {x : Sx} (p : Path rs x0 V x) : V.length ≤ 2 * rs.length := by
  have hnod := (p.fresh P hn h0 hf).2
  have hkey : ∀ y ∈ V, ∃ n r, (n, r) ∈ rs ∧ idx rs y.s y.e y.w = some n ∧ endOf y.s r = y.e ∧ hueOf r = y.w := by
    clear hnod
    induction p with
    | nil => intro y hy; cases hy
    | @cons V x z p h ih =>
      intro y hy
      rcases List.mem_cons.mp hy with e | hy
      · subst e
        obtain ⟨n, r, a1, a2, a3, a4, _⟩ := nextX_some hn h
        exact ⟨n, r, a1, a2, a3, a4⟩
      · exact ih y hy
  have hside := p.side h0
  have hinj : (V.map fun y => (y.s, (idx rs y.s y.e y.w).getD 0)).Nodup := by
    unfold List.Nodup
    rw [List.pairwise_map]
    refine List.Pairwise.imp_of_mem (fun {a b} ha hb hne e => hne ?_) hnod
    injection e with e1 e2
    obtain ⟨n, r, a1, a2, a3, a4⟩ := hkey a ha
    obtain ⟨m, q, b1, b2, b3, b4⟩ := hkey b hb
    rw [a2, b2] at e2
    have en : n = m := e2
    subst en
    have er : r = q := by
      have h1 := look_of hn a1
      rw [look_of hn b1] at h1
      exact (Option.some.inj h1).symm
    subst er
    have pa := (hside a (List.mem_cons_of_mem _ ha)).2
    have pb := (hside b (List.mem_cons_of_mem _ hb)).2
    clear ha hb
    obtain ⟨s, e, w, o⟩ := a
    obtain ⟨s', e', w', o'⟩ := b
    simp only at e1 a3 a4 b3 b4 pa pb
    subst e1
    have ew : w = w' := a4.symm.trans b4
    subst ew
    have ee : e = e' := a3.symm.trans b3
    subst ee
    have eo : o = o' := by
      rcases pa with ⟨pa1, pa2⟩ | ⟨pa1, pa2⟩ <;> rcases pb with ⟨pb1, pb2⟩ | ⟨pb1, pb2⟩
      · rw [pa2, pb2]
      · rw [pa2, pb2, ← pa1, ← pb1]
      · rw [pa2, pb2, ← pa1, ← pb1]
      · rw [pa2, pb2]
    rw [eo]
  have hsub : ∀ z ∈ V.map (fun y => (y.s, (idx rs y.s y.e y.w).getD 0)), z ∈ (keys rs).map (fun n => (0, n)) ++ (keys rs).map (fun n => (1, n)) := by
    intro z hz
    obtain ⟨y, hy, rfl⟩ := List.mem_map.mp hz
    obtain ⟨n, r, a1, a2, _, _⟩ := hkey y hy
    rw [a2]
    have hmem : n ∈ keys rs := List.mem_map.mpr ⟨_, a1, rfl⟩
    have := (hside y (List.mem_cons_of_mem _ hy)).1
    rw [List.mem_append, List.mem_map, List.mem_map]
    rcases (show y.s = 0 ∨ y.s = 1 by omega) with e | e
    · exact .inl ⟨n, hmem, by rw [e]; rfl⟩
    · exact .inr ⟨n, hmem, by rw [e]; rfl⟩
  have := nodup_len hinj hsub
  rw [List.length_map, List.length_append, List.length_map, List.length_map] at this
  unfold keys at this
  rw [List.length_map] at this
  omega
theorem chainF_ch {rs : Rows} (P : Proper rs) (hn : (keys rs).Nodup) {x0 : Sx} (h0 : x0.s < 2) (hf : idx rs x0.s x0.e x0.o = none) : ∀ (f : Nat) {V : List Sx} {x : Sx}, Path rs x0 V x → 2 * rs.length < f + V.length → Ch rs x.s x.e x.w x.o (chainF rs f x.s x.e x.w x.o)
  | 0, V, x, p, hlt => by have := p.len P hn h0 hf; omega
  | f + 1, V, x, p, hlt => by
    unfold chainF
    cases q : idx rs x.s x.e x.w with
    | none => exact .stop q
    | some n =>
      refine .step q ?_
      have p' : Path rs x0 (x :: V) ⟨1 - x.s, endOf (1 - x.s) (rowOf rs n), x.o, x.w⟩ := .cons p (by unfold nextX; rw [q]; rfl)
      exact chainF_ch P hn h0 hf f p' (by rw [List.length_cons]; omega)
theorem chain_ch {rs : Rows} (P : Proper rs) (hn : (keys rs).Nodup) {s : Nat} {e w o : Int} (h0 : s < 2) (hf : idx rs s e o = none) : Ch rs s e w o (chain rs s e w o) :=
  chainF_ch (x0 := ⟨s, e, w, o⟩) P hn h0 hf (2 * rs.length + 1) .nil (by simp)
theorem Ch.mem {rs : Rows} (hn : (keys rs).Nodup) : ∀ {ns : List Int} {s : Nat} {e w o : Int}, Ch rs s e w o ns → ∀ n ∈ ns, ∃ r, (n, r) ∈ rs ∧ (hueOf r = w ∨ hueOf r = o)
  | _, _, _, _, _, .stop h, n, hn' => by cases hn'
  | _, _, _, _, _, .step h t, n, hn' => by
    rcases List.mem_cons.mp hn' with e | hn'
    · subst e
      obtain ⟨r, h1, h2, h3⟩ := idx_some h
      exact ⟨r, h1, .inl h3⟩
    · obtain ⟨r, h1, h2⟩ := Ch.mem hn t n hn'
      exact ⟨r, h1, h2.symm⟩
theorem chainF_len (rs : Rows) : ∀ (f s : Nat) (e w o : Int), (chainF rs f s e w o).length ≤ f
  | 0, _, _, _, _ => Nat.le_refl _
  | f + 1, s, e, w, o => by
    unfold chainF
    cases idx rs s e w with
    | none => exact Nat.zero_le _
    | some n => exact Nat.succ_le_succ (chainF_len rs f _ _ _ _)
theorem chain_len (rs : Rows) (s : Nat) (e w o : Int) : (chain rs s e w o).length ≤ 2 * rs.length + 1 := chainF_len rs _ _ _ _ _
end Ph
end

section
set_option maxRecDepth 100000
set_option maxHeartbeats 4000000
/-! D4u: walks over lists that are cells; comprehensions over them. -/
namespace D4
open PySem L2
theorem walk_listV {K : Fg} {a : Addr} {n : Nat} : Walk (Itl K a) n (fun H => ∃ vs, SqL K H a vs ∧ vs.length = n) (fun i H x H' => H' = H ∧ ∀ vs, SqL K H a vs → vs[i]? = some x) :=
  ⟨fun i _ hi ⟨vs, q, e⟩ => ⟨vs, vs[i]'(by omega), q, by simp [show i < vs.length by omega]⟩, fun _ ⟨vs, q, e⟩ => ⟨vs, q, by omega⟩, fun _ _ _ _ _ _ y => y⟩
theorem LA.sub {M M' : Mp} {d : D} {xs : List D} (h : LA M d xs) (s : Sub M M') : LA M' d xs := by
  cases h with
  | l => exact .l
  | c h => exact .c (s _ _ h)
theorem DkI.sub {M M' : Mp} {a : Addr} {kvs : List (Int × D)} (h : DkI M a kvs) (s : Sub M M') : DkI M' a kvs := by
  rcases h with h | ⟨od, ws, h⟩
  · exact .inl (s _ _ h)
  · exact .inr ⟨od, ws, s _ _ h⟩
section
variable {X : Cx} {b : Bs} {δ : Od} {M : Mp} {e o k e1 e2 tg elt iter : Expr} {es ifs : List Expr} {Φ : Mp → D → Prop} {Ψ : Xs} {d d1 d2 : D} {ds xs : List D} {pos p p2 : Pos} {x : Str} {ps : List Str} {j l : Nat} {a : Addr}
theorem iw_cell {Φ : Mp → (Mp → Prop) → List D → Prop} {Ψ : Xs} (h : EW X b δ M iter (fun M1 d => ∃ a ds, d = .loc (.ref a) ∧ M1 a = some (.lst ds) ∧ Φ M1 (fun M' => M' a = some (.lst ds)) ds) Ψ) : IW X b δ M tg iter Φ Ψ := fun R mR σ H Q S k kx => by
  refine wi_of (pi_list pe_we) ?_
  refine h R mR σ H _ S (fun M1 d v H1 p S1 => ?_) kx
  obtain ⟨a, ds, rfl, hm, p⟩ := p
  obtain ⟨G, S1, z1, z2, z3⟩ := S1
  have e := Rep.loc_iff.mp z3
  obtain ⟨_, o, ho, vs, rfl, rs⟩ := S1.cel a _ hm
  refine ⟨a, e, ⟨vs, SqL.of ho⟩, ?_⟩
  refine k M1 _ ds H1 _ R p mR (fun G z => z) ⟨G, S1, z1, z2⟩ ?_
  refine ⟨_, _, walk_listV (K := X.K) (a := a), fun M' H' hm' ⟨G, S', z⟩ => ?_, fun i d x M' R' H' H'' mR' hi hm' ⟨G, S', r', z⟩ y => ?_⟩
  · obtain ⟨_, o, ho, ws, rfl, rs⟩ := S'.cel a _ hm'
    exact ⟨ws, SqL.of ho, rs.length.symm⟩
  · obtain ⟨_, o, ho, ws, rfl, rs⟩ := S'.cel a _ hm'
    obtain ⟨rfl, hx⟩ := y
    obtain ⟨v, hv, rv⟩ := rs.get hi
    rw [hx ws (SqL.of ho)] at hv; cases hv
    exact ⟨G, S', r', z, rv⟩
theorem iw_la {Φ : Mp → (Mp → Prop) → List D → Prop} {Ψ : Xs} (h : EV X b δ M iter d) (hl : LA M d xs) (q : Φ M (fun M' => LA M' d xs) xs) (hmono : ∀ CM CM' : Mp → Prop, (∀ M', CM M' → CM' M') → Φ M CM xs → Φ M CM' xs) : IW X b δ M tg iter Φ Ψ := by
  cases hl with
  | l => exact iw_lst (h.to ⟨xs, rfl, hmono _ _ (fun _ _ => trivial) q⟩)
  | c hm => exact iw_cell (h.to ⟨_, xs, rfl, hm, hmono _ _ (fun _ h => by cases h with | c h => exact h) q⟩)
/-- a for over a list, frozen or cell -/
theorem sw_forL {E : DE} {body : List Stmt} (I : Nat → Mp → Od → Prop) (hp : PassesOwn (model X.prog X.w) X.A X.env X.xe) (hc : X.calm = true) (h : EV X b δ M iter d) (hl : LA M d xs) (h0 : I 0 M δ) (hI : ∀ i M' δ', I i M' δ' → LA M' d xs)
    (hst : ∀ i x M' δ', xs[i]? = some x → I i M' δ' → GW X b δ' M' tg x fun M2 δ2 => SWs X b δ2 M2 body { E with nx := I (i + 1), ct := I (i + 1), bk := E.nx }) (hE : ∀ M' δ', I xs.length M' δ' → E.nx M' δ') (hs : ∀ x, foldedSetIterable iter X.env x = pure x := by exact fun _ => rfl) : SW X b δ M (.For tg iter body [] pos) E :=
  sw_for hp hc (iw_la h hl ⟨I, h0, hI, hst, hE⟩ fun CM CM' f ⟨I, a1, a2, a3⟩ => ⟨I, a1, fun i M' δ' z => f _ (a2 i M' δ' z), a3⟩) hs
/-- a for over range(n) -/
theorem sw_forR {E : DE} {body : List Stmt} {n : Int} (I : Nat → Mp → Od → Prop) (hp : PassesOwn (model X.prog X.w) X.A X.env X.xe) (hc : X.calm = true) (hg : Gl X "range") (hm : X.mg "range" = none) (h : EV X b δ M e (.int n)) (hn0 : -1000000 ≤ n) (hn1 : n ≤ 1000000) (h0 : I 0 M δ)
    (hst : ∀ (i : Nat) M' δ', (i : Int) < n → I i M' δ' → GW X b δ' M' tg (.int (i : Nat)) fun M2 δ2 => SWs X b δ2 M2 body { E with nx := I (i + 1), ct := I (i + 1), bk := E.nx }) (hE : ∀ M' δ', I n.toNat M' δ' → E.nx M' δ') 
    (hs : starEach [e] X.env = [(false, eval e X.env)] := by exact D4.starEach_1 rfl) (hs1 : starEach [e] X.env = (false, eval e X.env) :: starEach [] X.env := by exact D4.starEach_c rfl) (hs2 : ∀ x, foldedSetIterable (.Call (.Name "range" p) [e] [] p2) X.env x = pure x := by exact fun _ => rfl) : SW X b δ M (.For tg (.Call (.Name "range" p) [e] [] p2) body [] pos) E :=
  sw_for hp hc (iw_range1 hg hm (h.to ⟨n, rfl, hn0, hn1, I, h0, fun _ _ _ _ => trivial, fun i d M' δ' hi hI => by
    unfold rngD at hi
    rw [List.getElem?_map] at hi
    cases q : (List.range n.toNat)[i]? with
    | none => rw [q] at hi; cases hi
    | some j =>
      rw [q] at hi; cases hi
      obtain ⟨hl, hj⟩ := List.getElem?_eq_some_iff.mp q
      rw [List.getElem_range] at hj
      subst hj
      rw [List.length_range] at hl
      exact hst i M' δ' (by omega) hI, by unfold rngD; rw [List.length_map, List.length_range]; exact hE⟩) hs hs1) hs2
section
variable {scope : Scope} {own : List (Str × Nat)} {α : Type} {xs : List α} {enc : α → D} {t : α → Bool} {f : α → D} {js : List Nat} {g : α → List D} {iter : Expr}
theorem lcp_la {Φ : Mp → List D → Prop} (h : EV X b δ M iter d) (la : LA M d (xs.map enc)) (hl : xs.length ≤ 100000) (htg : ∀ x ∈ xs, ∀ s' H' Cc cl fp, GS (Blk X scope s' H' Cc cl fp) tg (enc x) js (g x))
    (hturn : ∀ x ∈ xs, ∀ M2, Sub M M2 → TurnP X scope b (setD (wD δ (own.map (·.2))) js (g x)) M2 ifs elt (t x) (f x)) (q : Φ M ((xs.filter t).map f)) : LcP X b δ M scope own tg iter ifs elt xs enc t f js g Φ Ψ :=
  iw_la h la ⟨rfl, hl, fun M2 s => la.sub s, htg, hturn, q⟩ fun CM CM' f ⟨a1, a2, a3, a4⟩ => ⟨a1, a2, fun M2 s => f _ (a3 M2 s), a4⟩
theorem ev_lcA (own : List (Str × Nat)) (js : List Nat) (t : α → Bool) (f : α → D) (g : α → List D) (hc : X.calm = true) (hN : X.N.Nodup) (h : EV X b δ M iter d) (la : LA M d (xs.map enc)) (hl : xs.length ≤ 100000) (htg : ∀ x ∈ xs, ∀ s' H' Cc cl fp, GS (Blk X scope s' H' Cc cl fp) tg (enc x) js (g x))
    (hturn : ∀ x ∈ xs, ∀ M2, Sub M M2 → TurnP X scope b (setD (wD δ (own.map (·.2))) js (g x)) M2 ifs elt (t x) (f x)) (ok : BlkOk X.N X.env.scope scope own := by exact blkOk_by (by dsimp only [L2.cxOf, PyProof.Rows.envOfC]; decide +kernel)) (hif : ifs.length ≤ 1 := by decide) (hjs : ∀ j ∈ js, j ∈ own.map (·.2) := by decide) (hs : ∀ x, foldedSetIterable iter X.env x = pure x := by exact fun _ => rfl) : EV X b δ M (.ListComp elt [⟨tg, iter, ifs, 0⟩] scope pos) (.lst ((xs.filter t).map f)) :=
  ew_lc hc hN ok (lcp_la h la hl htg hturn ⟨rfl, rfl⟩) hif hjs hs
theorem sw_setA (i : Nat) (own : List (Str × Nat)) (js : List Nat) (t : α → Bool) (f : α → D) (g : α → List D) {E : DE} {y : Str} {py spos : Pos} (hc : X.calm = true) (hN : X.N.Nodup) (h : EV X b δ M iter d) (la : LA M d (xs.map enc)) (hl : xs.length ≤ 100000) (htg : ∀ x ∈ xs, ∀ s' H' Cc cl fp, GS (Blk X scope s' H' Cc cl fp) tg (enc x) js (g x))
    (hturn : ∀ x ∈ xs, ∀ M2, Sub M M2 → TurnP X scope b (setD (wD δ (own.map (·.2))) js (g x)) M2 ifs elt (t x) (f x)) (q : E.nx M (δ.set i (some (.lst ((xs.filter t).map f))))) (ok : BlkOk X.N X.env.scope scope own := by exact blkOk_by (by dsimp only [L2.cxOf, PyProof.Rows.envOfC]; decide +kernel)) (hy : X.N[i]? = some y := by rfl) (hyl : X.env.scope.names.lookup y = some .local := by rfl)
    (hsw : swapsWith (.ListComp elt [⟨tg, iter, ifs, 0⟩] scope pos) (some (.Name y py)) spos.line X.env = pure true := by exact sw_true rfl rfl rfl (by decide +kernel)) (hif : ifs.length ≤ 1 := by decide) (hjs : ∀ j ∈ js, j ∈ own.map (·.2) := by decide) (hs : ∀ x, foldedSetIterable iter X.env x = pure x := by exact fun _ => rfl) : SW X b δ M (.Assign [.Name y py] (.ListComp elt [⟨tg, iter, ifs, 0⟩] scope pos) spos) E :=
  sw_setLc i hc hN ok (lcp_la h la hl htg hturn q) hy hyl hsw hif hjs hs
end
end
end D4
end

section
set_option maxRecDepth 100000
set_option maxHeartbeats 4000000
/-! D4v: small laws of lists and calls. -/
namespace D4
open PySem L2
theorem at_ints {ns : List Int} {i : Int} (h0 : 0 ≤ i) (h1 : i < ns.length) : ∃ n ∈ ns, atI (ns.map D.int) i = some (D.int n) := by
  have hi : i.toNat < ns.length := by omega
  refine ⟨ns[i.toNat], List.getElem_mem hi, ?_⟩
  have e : (i.toNat : Int) = i := by omega
  have := atI_nat (xs := ns.map D.int) (j := i.toNat) (v := D.int ns[i.toNat]) (by simp [hi])
  rw [e] at this; exact this
theorem CallS.of {b : Bs} {S : FSp} {M : Mp} {ds : List D} {Φ : Mp → D → Prop} {Ψ : Xs} (h : ∀ fr, (∀ p, fr p → M p = none ∧ Nw b p) → S (fun _ => False) fr M ds Φ Ψ) : CallS b S M ds Φ Ψ := ⟨fun _ => False, fun _ z => z.elim, h⟩
theorem Okd.lst {ds : List D} (h : ∀ d ∈ ds, okD d = true ∧ depD d ≤ 50) : Okd (.lst ds) := by
  refine ⟨by show okDs ds = true; exact (okDs_iff ds).mpr fun d hd => (h d hd).1, ?_⟩
  show depDs ds + 1 ≤ 60
  have := depDs_le (n := 50) ds fun d hd => (h d hd).2
  omega
theorem cutD_map {α : Type} (f : α → D) (xs : List α) (lo hi : Option Int) : ∃ ys : List α, cutD (xs.map f) lo hi = ys.map f ∧ ys.length ≤ xs.length ∧ ∀ y ∈ ys, y ∈ xs := by
  refine ⟨(xs.drop (HT.sIx (xs.map f).length 0 lo)).take (HT.sIx (xs.map f).length (xs.map f).length hi - HT.sIx (xs.map f).length 0 lo), ?_, ?_, ?_⟩
  · unfold cutD; rw [List.map_take, List.map_drop]
  · rw [List.length_take, List.length_drop]; omega
  · intro y hy; exact List.mem_of_mem_drop (List.mem_of_mem_take hy)
theorem cutD_take (xs : List D) (k : Nat) : cutD xs none (some (k : Int)) = xs.take k := by
  unfold cutD
  rw [HT.sIx_none, HT.sIx_nat, List.drop_zero, Nat.sub_zero]
  by_cases h : k ≤ xs.length
  · rw [Nat.min_eq_left h]
  · rw [Nat.min_eq_right (by omega), List.take_length, List.take_of_length_le (by omega)]
theorem cutD_drop (xs : List D) (k : Nat) : cutD xs (some (k : Int)) none = xs.drop k := by
  unfold cutD
  rw [HT.sIx_none, HT.sIx_nat]
  by_cases h : k ≤ xs.length
  · rw [Nat.min_eq_left h, List.take_of_length_le (by rw [List.length_drop]; omega)]
  · rw [Nat.min_eq_right (by omega), Nat.sub_self, List.take_zero, List.drop_of_length_le (by omega)]
theorem enumD_map {α : Type} (f : α → D) : ∀ (j : Nat) (xs : List α) (i : Nat) (d : D), (enumD j (xs.map f))[i]? = some d → ∃ x, xs[i]? = some x ∧ d = .tup [.int ((j + i : Nat) : Int), f x] := fun j xs i d h => by
  rw [enumD_get, List.getElem?_map] at h
  cases q : xs[i]? with
  | none => rw [q] at h; cases h
  | some x => rw [q] at h; cases h; exact ⟨x, rfl, rfl⟩
/-- some number below n+1 that is not in a list of n -/
theorem free_num (ts : List Int) (n : Nat) (h : ts.length ≤ n) : ∃ m : Int, m ∈ ((List.range (n + 1)).filter fun i : Nat => !decide ((i : Int) ∈ ts)).map (fun i : Nat => (i : Int)) ∧ ∀ y ∈ ((List.range (n + 1)).filter fun i : Nat => !decide ((i : Int) ∈ ts)).map (fun i : Nat => (i : Int)), m ≤ y := by
  have hne : (List.range (n + 1)).filter (fun i : Nat => !decide ((i : Int) ∈ ts)) ≠ [] := fun he => by
    rw [List.filter_eq_nil_iff] at he
    have h1 : ((List.range (n + 1)).map fun i : Nat => (i : Int)).Nodup := by
      unfold List.Nodup
      rw [List.pairwise_map]
      exact List.Pairwise.imp (fun {a b} (h : a ≠ b) e => h (Int.ofNat_inj.mp e)) List.nodup_range
    have h2 := nodup_len h1 (m := ts) fun x hx => by
      obtain ⟨i, hi, rfl⟩ := List.mem_map.mp hx
      have := he i hi
      simpa using this
    rw [List.length_map, List.length_range] at h2
    omega
  generalize hL : (List.range (n + 1)).filter (fun i : Nat => !decide ((i : Int) ∈ ts)) = L at hne
  clear hL
  cases L with
  | nil => exact absurd rfl hne
  | cons a L =>
    clear hne
    induction L generalizing a with
    | nil => exact ⟨a, by simp, by simp⟩
    | cons c L ih =>
      obtain ⟨m, hm, hle⟩ := ih (min a c)
      refine ⟨m, ?_, ?_⟩
      · simp only [List.map_cons, List.mem_cons] at hm ⊢
        rcases hm with e | hm
        · rcases (show min a c = a ∨ min a c = c by omega) with h | h
          · exact .inl (by rw [e, h])
          · exact .inr (.inl (by rw [e, h]))
        · exact .inr (.inr hm)
      · intro y hy
        simp only [List.map_cons, List.mem_cons] at hy hle
        rcases hy with e | e | hy
        · have := hle _ (.inl rfl); omega
        · have := hle _ (.inl rfl); omega
        · exact hle y (.inr hy)
end D4
end

section
set_option maxRecDepth 100000
set_option maxHeartbeats 4000000
/-! D4w: from the law's promise to the row's end. -/
namespace D4
open PySem L2
theorem SO.top {K : Fg} {H : Hp} {own : Addr → Prop} : SO K ⟨H, H, own⟩ (fun _ => none) H H :=
  ⟨fun _ _ h => h, fun _ _ h => h, fun _ _ h => (by cases h), fun _ _ h _ => h, fun _ h => h⟩
theorem spD_law {K : Fg} {P : Mp → List D → D → Prop} {H : Hp} {a : Addr} {ns : List Int} (hS : SqL K H a (ns.map V.int)) (h : P (fun _ => none) [.scr ns] (.bl true)) : spD K (PureS P) [.ref a] H (fun v _ => v = .bl true) fun _ _ _ => False := by
  refine ⟨H, fun _ => none, [.scr ns], fun _ => False, fun _ d => d = .bl true, fun _ _ => False, SO.top, Reps.cons (Rep.scr_iff.mpr ⟨a, rfl, hS⟩) .nil, ⟨_, h, rfl⟩, ?_, fun _ _ _ z => z.elim⟩
  rintro M' d v H' rfl ⟨G, _, r⟩
  exact Rep.bl_iff.mp r
theorem cx_no {P : Program} {w : World} {H : Hp} {s : Shared} {e : Value} {s' : Shared} (h : L2.CX P w [] H s (fun _ _ _ => False) e s') : False := by
  obtain ⟨a, B, H', cls, d, _, _, _, _, _, _, _, z⟩ := h
  exact z
theorem law_end {l : PySem.W.OpenLaw} {q : Program} {loose : List Str} {XP : (Str → Option Value) → Heap → Prop} {YP : World → Heap → Prop} {d : DefRec} {K : Params → PySem.W.Frag} {k : Nat} {P : Mp → List D → D → Prop} {x : Str} (hn : l.most = some 63) (hdf : d.params.defaults = []) (hr : Room k callerA)
    (hP : ∀ (ns : List Int), ns.length ≤ 63 → P (fun _ => none) [.scr ns] (.bl true))
    (hY : ∀ (w : World) (h : Heap), YP w h → (K w.params).In h)
    (F : ∀ (w : World) (mg : Str → Option Value) (fa : Addr) (h : Heap), (K w.params).In h → h.Ns mainGlobals mg → mg d.name = some (.ref fa) →
      ∃ fd : FuncData, (∀ (s : Shared) (u : Value), BindsTo s fd ⟨[u], []⟩ [(x, u)]) ∧ ∀ base : Heap, (K w.params).In base → base.Ns mainGlobals mg → FnOk l.prog w (K w.params) mg base (L2.CX l.prog w) k fa fd [x] (spD (K w.params) (PureS P))) :
    PySem.W.WalkO q loose XP YP l.row.toRowW d [] (fun f vs => PySem.call f vs) :=
  L2.walk_of (n := 63) (k := k) (x := x) (CX := fun w => L2.CX l.prog w) (sp := fun w => spD (K w.params) (PureS P)) hn (by decide) hdf hr hY F (fun _ _ a ns hl _ hS => spD_law hS (hP ns hl)) fun _ _ _ _ _ z => cx_no z
end D4
end

section
set_option maxRecDepth 100000
set_option maxHeartbeats 4000000
/-! D4x: min of a list of data. -/
namespace D4
open PySem L2
mutual
theorem toPy_inj : ∀ (a b : D), okD a = true → okD b = true → toPy a = toPy b → a = b := fun a b ha hb e => by
  cases a <;> cases b <;> first | rfl | (simp only [toPy] at e; cases e; done) | skip
  all_goals first
    | (cases ha; done) | (cases hb; done)
    | (simp only [toPy] at e; injection e with e; subst e; rfl)
    | (simp only [toPy] at e; injection e with e; exact congrArg _ (toPys_inj _ _ ha hb e))
theorem toPys_inj : ∀ (a b : List D), okDs a = true → okDs b = true → toPys a = toPys b → a = b := fun a b ha hb e => by
  cases a with
  | nil => cases b with
    | nil => rfl
    | cons y ys => simp only [toPys] at e; cases e
  | cons x xs => cases b with
    | nil => simp only [toPys] at e; cases e
    | cons y ys =>
      simp only [toPys] at e
      simp only [okDs, Bool.and_eq_true] at ha hb
      injection e with e1 e2
      rw [toPy_inj x y ha.1 hb.1 e1, toPys_inj xs ys ha.2 hb.2 e2]
end
theorem toPys_map : ∀ ds : List D, toPys ds = ds.map toPy
  | [] => rfl
  | d :: ds => by simp only [toPys, List.map_cons, toPys_map ds]
mutual
theorem reads_det {h : Heap} : ∀ (d : D) (u : Value) (q : PyData) (as bs : List Addr), okD d = true → Reads h u (toPy d) as → Reads h u q bs → q = toPy d
  | .non, _, _, _, _, _, r, r' => by simp only [toPy] at r ⊢; cases r; cases r'; rfl
  | .bl _, _, _, _, _, _, r, r' => by simp only [toPy] at r ⊢; cases r; cases r'; rfl
  | .int _, _, _, _, _, _, r, r' => by simp only [toPy] at r ⊢; cases r; cases r'; rfl
  | .str _, _, _, _, _, _, r, r' => by simp only [toPy] at r ⊢; cases r; cases r'; rfl
  | .lst xs, u, q, as, bs, ok, r, r' => by
    simp only [toPy] at r ⊢
    cases r with
    | list h1 h2 h3 h4 =>
      cases r' with
      | list g1 g2 g3 g4 =>
        rw [h1] at g1; cases g1
        rw [h3] at g3; cases g3
        rw [readsAll_det xs _ _ _ _ ok h4 g4]
      | tuple g1 g2 g3 g4 => rw [h1] at g1; cases g1; rw [h2] at g2; exact absurd g2 (by decide)
      | dict g1 g2 g3 g4 => rw [h1] at g1; cases g1; rw [h2] at g2; exact absurd g2 (by decide)
  | .tup xs, u, q, as, bs, ok, r, r' => by
    simp only [toPy] at r ⊢
    cases r with
    | tuple h1 h2 h3 h4 =>
      cases r' with
      | tuple g1 g2 g3 g4 =>
        rw [h1] at g1; cases g1
        rw [h3] at g3; cases g3
        rw [readsAll_det xs _ _ _ _ ok h4 g4]
      | list g1 g2 g3 g4 => rw [h1] at g1; cases g1; rw [h2] at g2; exact absurd g2 (by decide)
      | dict g1 g2 g3 g4 => rw [h1] at g1; cases g1; rw [h2] at g2; exact absurd g2 (by decide)
  | .scr _, _, _, _, _, ok, _, _ => by cases ok
  | .loc _, _, _, _, _, ok, _, _ => by cases ok
theorem readsAll_det {h : Heap} : ∀ (ds : List D) (us : List Value) (qs : List PyData) (as bs : List Addr), okDs ds = true → ReadsAll h us (toPys ds) as → ReadsAll h us qs bs → qs = toPys ds
  | [], _, _, _, _, _, r, r' => by simp only [toPys] at r ⊢; cases r; cases r'; rfl
  | d :: ds, us, qs, as, bs, ok, r, r' => by
    simp only [toPys] at r ⊢
    simp only [okDs, Bool.and_eq_true] at ok
    cases r with
    | cons h1 h2 =>
      cases r' with
      | cons g1 g2 => rw [reads_det d _ _ _ _ ok.1 h1 g1, readsAll_det ds _ _ _ _ ok.2 h2 g2]
end
/-- the least, the first of them -/
def minDD (x : D) (xs : List D) : D := xs.foldl (fun a y => if PySem.W.dataLt (toPy y) (toPy a) = true then y else a) x
theorem minDD_py (x : D) : ∀ xs : List D, PySem.W.minD (toPy x) (toPys xs) = toPy (minDD x xs) := fun xs => by
  unfold PySem.W.minD minDD
  rw [toPys_map]
  induction xs generalizing x with
  | nil => rfl
  | cons y ys ih =>
    rw [List.map_cons, List.foldl_cons, List.foldl_cons, ← ih]
    cases PySem.W.dataLt (toPy y) (toPy x) <;> rfl
theorem minDD_mem (x : D) : ∀ xs : List D, minDD x xs ∈ x :: xs := fun xs => by
  unfold minDD
  induction xs generalizing x with
  | nil => simp
  | cons y ys ih =>
    rw [List.foldl_cons]
    have := ih (if PySem.W.dataLt (toPy y) (toPy x) = true then y else x)
    rcases List.mem_cons.mp this with h | h
    · rw [h]; split <;> simp
    · exact List.mem_cons_of_mem _ (List.mem_cons_of_mem _ h)
def rMinD (K : Fg) (u : Nat) : List V → Hp → VK → Prop := fun vs H Q => ∃ (a : Addr) (xs : List V) (d : D) (ds : List D), vs = [V.ref a] ∧ SqL K H a xs ∧ okDs (d :: ds) = true ∧ DpAll K H xs (toPys (d :: ds)) ∧ PySem.W.AlikeAll (toPys (d :: ds)) ∧ u + 1 + depDs (d :: ds) < cLine ∧
  ∀ (i : Nat) (v : V) (d' : D), xs[i]? = some v → (d :: ds)[i]? = some d' → d' = minDD d ds → Q v H
theorem cr_minD {X : Cx} (hc : X.calm = true) : CallR X (.builtin "min") (rMinD X.K X.A.units) := by
  intro pins s σ H vs us Q I r h
  obtain ⟨a, xs, d, ds, rfl, hs, ok, hd, hal, hu, q⟩ := h
  obtain ⟨its, rv, hl, _⟩ := I.list hs
  rw [Vals.ref1 r]
  obtain ⟨as, ra⟩ := Dp.readsAll I _ _ _ hd rv
  simp only [toPys] at ra hal
  have hu2 : X.A.units + 1 + PyData.depthAll (toPy d :: toPys ds) < cLine := by
    have e := dep_toPys (d :: ds)
    simp only [toPys] at e
    rw [e]; exact hu
  refine PySem.W.min_list_data (I.ok.hd hc) hl.isList (by simpa using ra) hal hu2 fun i u h' tk bs hi hr hk => ?_
  have hi' : its[i]? = some u := by simpa using hi
  have hlv : i < xs.length := by rw [rv.length]; exact (List.getElem?_eq_some_iff.mp hi').1
  have hv : xs[i]? = some xs[i] := by simp [hlv]
  obtain ⟨u', hu', rvu⟩ := Vals.get rv hv
  rw [hi'] at hu'; cases hu'
  generalize xs[i] = v at hv rvu
  obtain ⟨cs, rc, hlt, _, _⟩ := PySem.W.readsAll_at ra i u hi'
  have hlt2 : i < (d :: ds).length := by
    have : (toPy d :: toPys ds).length = (d :: ds).length := by rw [toPys_map]; simp
    omega
  have hd' : (d :: ds)[i]? = some (d :: ds)[i] := by simp [hlt2]
  have okd : okD (d :: ds)[i] = true := (okDs_iff _).mp ok _ (List.getElem_mem hlt2)
  have e1 : (toPy d :: toPys ds).getD i .none = toPy (d :: ds)[i] := by
    rw [toPys_map, ← List.map_cons, List.getD_eq_getElem?_getD, List.getElem?_map, hd']; rfl
  rw [e1] at rc
  have e2 := reads_det _ _ _ _ _ okd (PySem.W.reads_keeps hk rc) hr
  rw [minDD_py] at e2
  have okm : okD (minDD d ds) = true := (okDs_iff _).mp ok _ (minDD_mem d ds)
  exact ⟨v, H, I.kept hk, rvu, q i v _ hv hd' (toPy_inj _ _ okd okm e2.symm)⟩
theorem c_minD {X : Cx} {b : Bs} {M : Mp} {d : D} {ds : List D} (hc : X.calm = true) (hu : X.A.units + 64 < cLine) (ok : okDs (d :: ds) = true) (hdep : depDs (d :: ds) ≤ 60) (hal : PySem.W.AlikeAll (toPys (d :: ds))) : CW X b (.builtin "min") M [.lst (d :: ds)] (One M (minDD d ds)) := cw_of (cr_minD hc) fun R mR vs H G Q S z r k => by
  obtain ⟨v, rfl, rv⟩ := reps1 r
  obtain ⟨a, ws, rfl, ha, rs⟩ := Rep.lst_iff.mp rv
  refine ⟨a, ws, d, ds, rfl, SqL.of (S.gh _ _ ha), ok, Reps.dp S.gh _ _ ok rs, hal, by omega, fun i w d' hw hd' e => ?_⟩
  obtain ⟨w', hw', rw'⟩ := rs.get hd'
  rw [hw] at hw'; cases hw'
  exact k _ _ _ H ⟨rfl, rfl⟩ ⟨G, S, z, by rw [← e]; exact rw'⟩
end D4
end

section
set_option maxHeartbeats 1000000
/-! M3: a chain turned keeps the hueing proper; the hue that is given. Plain mathematics. -/
namespace Ph
open PySem L2 D4 K8
def flip (one other : Int) (r : Row) : Row := (r.1, r.2.1, if hueOf r = other then one else other)
def turn (rs : Rows) (ns : List Int) (one other : Int) : Rows := rs.map fun x => if x.1 ∈ ns then (x.1, flip one other x.2) else x
theorem endOf_flip (s : Nat) (a b : Int) (r : Row) : endOf s (flip a b r) = endOf s r := by unfold endOf flip; split <;> rfl
theorem turn_nil (rs : Rows) (a b : Int) : turn rs [] a b = rs := by unfold turn; simp
theorem turn_len (rs : Rows) (ns : List Int) (a b : Int) : (turn rs ns a b).length = rs.length := List.length_map _
theorem turn_keys (rs : Rows) (ns : List Int) (a b : Int) : keys (turn rs ns a b) = keys rs := by
  unfold keys turn
  rw [List.map_map]
  refine List.map_congr_left fun x _ => ?_
  show (if x.1 ∈ ns then (x.1, flip a b x.2) else x).1 = x.1
  split <;> rfl
theorem turn_ends (rs : Rows) (ns : List Int) (a b : Int) (s : Nat) : (turn rs ns a b).map (fun x => endOf s x.2) = rs.map fun x => endOf s x.2 := by
  unfold turn
  rw [List.map_map]
  refine List.map_congr_left fun x _ => ?_
  show endOf s (if x.1 ∈ ns then (x.1, flip a b x.2) else x).2 = endOf s x.2
  split
  · exact endOf_flip s a b x.2
  · rfl
theorem turn_mem {rs : Rows} {ns : List Int} {a b : Int} {y : Int × Row} (h : y ∈ turn rs ns a b) : ∃ x ∈ rs, y.1 = x.1 ∧ (∀ s, endOf s y.2 = endOf s x.2) ∧ (x.1 ∈ ns → y.2 = flip a b x.2) ∧ (x.1 ∉ ns → y = x) := by
  obtain ⟨x, hx, e⟩ := List.mem_map.mp h
  by_cases c : x.1 ∈ ns
  · rw [if_pos c] at e
    subst e
    exact ⟨x, hx, rfl, fun s => endOf_flip s a b x.2, fun _ => rfl, fun h => absurd c h⟩
  · rw [if_neg c] at e
    subst e
    exact ⟨x, hx, rfl, fun s => rfl, fun h => absurd h c, fun _ => rfl⟩
theorem turn_put {rs : Rows} (hn : (keys rs).Nodup) {ns : List Int} {a b n : Int} {r : Row} (h : look rs n = some r) : put (turn rs ns a b) n (flip a b r) = turn rs (ns ++ [n]) a b := by
  have hm := look_mem h
  have hk : n ∈ keys rs := List.mem_map.mpr ⟨_, hm, rfl⟩
  unfold put
  rw [turn_keys, if_pos hk]
  unfold turn
  rw [List.map_map]
  refine List.map_congr_left fun x hx => ?_
  show (if (if x.1 ∈ ns then (x.1, flip a b x.2) else x).1 = n then ((if x.1 ∈ ns then (x.1, flip a b x.2) else x).1, flip a b r) else (if x.1 ∈ ns then (x.1, flip a b x.2) else x)) = if x.1 ∈ ns ++ [n] then (x.1, flip a b x.2) else x
  have e1 : (if x.1 ∈ ns then (x.1, flip a b x.2) else x).1 = x.1 := by split <;> rfl
  rw [e1]
  by_cases e : x.1 = n
  · rw [if_pos e, if_pos (by rw [List.mem_append]; exact .inr (by rw [e]; simp))]
    have := look_of hn (show (n, x.2) ∈ rs by rw [← e]; exact hx)
    rw [h] at this
    rw [Option.some.inj this]
  · rw [if_neg e]
    by_cases c : x.1 ∈ ns
    · rw [if_pos c, if_pos (List.mem_append.mpr (.inl c))]
    · rw [if_neg c, if_neg]
      intro z
      rcases List.mem_append.mp z with z | z
      · exact c z
      · exact e (List.mem_singleton.mp z)
theorem Ch.close {rs : Rows} (P : Proper rs) (hn : (keys rs).Nodup) : ∀ {ns : List Int} {s : Nat} {e w o : Int}, Ch rs s e w o ns → s < 2 → w ≠ o → ∀ x ∈ rs, x.1 ∈ ns → ∀ y ∈ rs, ∀ t < 2, endOf t x.2 = endOf t y.2 → ((hueOf x.2 = w ∧ hueOf y.2 = o) ∨ (hueOf x.2 = o ∧ hueOf y.2 = w)) → y.1 ∈ ns ∨ idx rs s e o = some y.1
  | _, _, _, _, _, .stop h, _, _, x, hx, hm, _, _, _, _, _, _ => by cases hm
  | _, s, e, w, o, .step (n := n) (ns := ns) h t, hs, hwo, x, hx, hm, y, hy, tt, ht, he, hh => by
    obtain ⟨r, h1, h2, h3⟩ := idx_some h
    have er : rowOf rs n = r := rowOf_of hn h1
    rw [er] at t
    rcases List.mem_cons.mp hm with e1 | hm
    · have ex : x = (n, r) := by
        have := look_of hn (show (n, x.2) ∈ rs by rw [← e1]; exact hx)
        rw [look_of hn h1] at this
        rw [Option.some.inj this, ← e1]
      subst ex
      have hy' : hueOf y.2 = o := by
        rcases hh with hh | hh
        · exact hh.2
        · exact absurd (h3.symm.trans hh.1) hwo
      by_cases c : tt = s
      · subst c
        refine .inr ?_
        rw [← h2, show endOf tt r = endOf tt y.2 from he, ← hy']
        exact idx_of P hy ht
      · have c' : tt = 1 - s := by omega
        subst c'
        refine .inl (List.mem_cons_of_mem _ ?_)
        have hi : idx rs (1 - s) (endOf (1 - s) r) o = some y.1 := by
          rw [show endOf (1 - s) r = endOf (1 - s) y.2 from he, ← hy']
          exact idx_of P hy (by omega)
        cases t with
        | stop q => rw [hi] at q; cases q
        | step q _ => rw [hi] at q; cases q; exact List.mem_cons_self
    · have ih := Ch.close P hn t (by omega) (Ne.symm hwo) x hx hm y hy tt ht he (by rcases hh with hh | hh; exact .inr hh; exact .inl hh)
      rcases ih with ih | ih
      · exact .inl (List.mem_cons_of_mem _ ih)
      · have : idx rs (1 - s) (endOf (1 - s) r) w = some n := by
          rw [← h3]
          exact idx_of P h1 (by omega)
        rw [this] at ih
        cases ih
        exact .inl List.mem_cons_self
theorem Ch.par {rs : Rows} (P : Proper rs) (hn : (keys rs).Nodup) : ∀ {ns : List Int} {s : Nat} {e w o : Int}, Ch rs s e w o ns → s < 2 → w ≠ o → ∀ x ∈ rs, x.1 ∈ ns → (hueOf x.2 = o → idx rs (1 - s) (endOf (1 - s) x.2) w ≠ none) ∧ (hueOf x.2 = w → endOf s x.2 = e ∨ idx rs s (endOf s x.2) o ≠ none)
  | _, _, _, _, _, .stop h, _, _, x, hx, hm => by cases hm
  | _, s, e, w, o, .step (n := n) (ns := ns) h t, hs, hwo, x, hx, hm => by
    obtain ⟨r, h1, h2, h3⟩ := idx_some h
    have er : rowOf rs n = r := rowOf_of hn h1
    rw [er] at t
    rcases List.mem_cons.mp hm with e1 | hm
    · have ex : x = (n, r) := by
        have := look_of hn (show (n, x.2) ∈ rs by rw [← e1]; exact hx)
        rw [look_of hn h1] at this
        rw [Option.some.inj this, ← e1]
      subst ex
      exact ⟨fun z => absurd (h3.symm.trans z) hwo, fun _ => .inl h2⟩
    · have ih := Ch.par P hn t (by omega) (Ne.symm hwo) x hx hm
      have ess : 1 - (1 - s) = s := by omega
      rw [ess] at ih
      refine ⟨fun z => ?_, fun z => .inr (ih.1 z)⟩
      rcases ih.2 z with q | q
      · rw [q]
        have : idx rs (1 - s) (endOf (1 - s) r) w = some n := by
          rw [← h3]
          exact idx_of P h1 (by omega)
        rw [this]
        exact fun z => by cases z
      · exact q
section
variable {rs : Rows} (P : Proper rs) (hn : (keys rs).Nodup) {s : Nat} (hs : s < 2) {e w o : Int} (hwo : w ≠ o) (hf : idx rs s e o = none) {ns : List Int} (hc : Ch rs s e w o ns)
include P hn hs hwo hf hc
theorem turn_proper : Proper (turn rs ns w o) := by
  intro x' hx' y' hy' t ht he hh
  obtain ⟨x, hx, x1, x2, x3, x4⟩ := turn_mem hx'
  obtain ⟨y, hy, y1, y2, y3, y4⟩ := turn_mem hy'
  rw [x2, y2] at he
  have same : x = y → x' = y' := fun e => by
    subst e
    by_cases c : x.1 ∈ ns
    · have a1 := x3 c
      have a2 := y3 c
      obtain ⟨p, q⟩ := x'
      obtain ⟨p', q'⟩ := y'
      simp only at x1 y1 a1 a2
      rw [x1, y1, a1, a2]
    · rw [x4 c, y4 c]
  have key : ∀ (x y x' y' : Int × Row), x ∈ rs → y ∈ rs → (x.1 ∈ ns → x'.2 = flip w o x.2) → (y.1 ∉ ns → y' = y) → endOf t x.2 = endOf t y.2 → hueOf x'.2 = hueOf y'.2 → x.1 ∈ ns → y.1 ∉ ns → False := by
    intro x y x' y' hx hy x3 y4 he hh c d
    rw [x3 c, y4 d] at hh
    obtain ⟨r, hr, hm⟩ := hc.mem hn x.1 c
    have : r = x.2 := by
      have := look_of hn hr
      rw [look_of hn hx] at this
      exact (Option.some.inj this).symm
    subst this
    have hcl := hc.close P hn hs hwo x hx c y hy t ht he (by
      unfold flip hueOf at hh
      rcases hm with hm | hm
      · have : ¬ x.2.2.2 = o := fun z => hwo (hm.symm.trans z)
        rw [if_neg this] at hh
        exact .inl ⟨hm, hh.symm⟩
      · rw [if_pos hm] at hh
        exact .inr ⟨hm, hh.symm⟩)
    rcases hcl with q | q
    · exact d q
    · rw [hf] at q; cases q
  by_cases c : x.1 ∈ ns
  · by_cases d : y.1 ∈ ns
    · refine same (P x hx y hy t ht he ?_)
      rw [x3 c, y3 d] at hh
      obtain ⟨r, hr, hm⟩ := hc.mem hn x.1 c
      obtain ⟨r', hr', hm'⟩ := hc.mem hn y.1 d
      have e1 : r = x.2 := by
        have := look_of hn hr
        rw [look_of hn hx] at this
        exact (Option.some.inj this).symm
      have e2 : r' = y.2 := by
        have := look_of hn hr'
        rw [look_of hn hy] at this
        exact (Option.some.inj this).symm
      subst e1 e2
      unfold flip hueOf at hh
      simp only at hh
      rcases hm with hm | hm <;> rcases hm' with hm' | hm'
      · rw [hm, hm']
      · rw [if_neg (fun z => hwo (hm.symm.trans z)), if_pos hm'] at hh
        exact absurd hh.symm hwo
      · rw [if_pos hm, if_neg (fun z => hwo (hm'.symm.trans z))] at hh
        exact absurd hh hwo
      · rw [hm, hm']
    · exact (key x y x' y' hx hy x3 y4 he hh c d).elim
  · by_cases d : y.1 ∈ ns
    · exact (key y x y' x' hy hx y3 x4 he.symm hh.symm d c).elim
    · refine same (P x hx y hy t ht he ?_)
      rw [x4 c, y4 d] at hh
      exact hh
theorem turn_far : idx (turn rs ns w o) s e w = none := by
  rw [idx_none]
  intro x' hx' he hh
  obtain ⟨x, hx, x1, x2, x3, x4⟩ := turn_mem hx'
  rw [x2] at he
  by_cases c : x.1 ∈ ns
  · rw [x3 c] at hh
    unfold flip hueOf at hh
    simp only at hh
    by_cases d : x.2.2.2 = o
    · exact idx_none.mp hf x hx he d
    · rw [if_neg d] at hh
      exact hwo hh.symm
  · rw [x4 c] at hh
    have hi : idx rs s e w = some x.1 := by
      rw [← he, ← hh]; exact idx_of P hx hs
    cases hc with
    | stop q => rw [hi] at q; cases q
    | step q _ => rw [hi] at q; cases q; exact c List.mem_cons_self
theorem turn_near {f : Int} (hw : idx rs (1 - s) f w = none) : idx (turn rs ns w o) (1 - s) f w = none := by
  rw [idx_none]
  intro x' hx' he hh
  obtain ⟨x, hx, x1, x2, x3, x4⟩ := turn_mem hx'
  rw [x2] at he
  by_cases c : x.1 ∈ ns
  · rw [x3 c] at hh
    unfold flip hueOf at hh
    simp only at hh
    by_cases d : x.2.2.2 = o
    · have := (hc.par P hn hs hwo x hx c).1 d
      rw [he] at this
      exact this hw
    · rw [if_neg d] at hh
      exact hwo hh.symm
  · rw [x4 c] at hh
    exact idx_none.mp hw x hx he hh
end
/-! ### the ways, the hue that is given -/
abbrev Way := Int × Int × Int × List Int
def encW (w : Way) : D := .tup [.int w.1, .int w.2.1, .int w.2.2.1, .lst (w.2.2.2.map D.int)]
def pick (s : Nat) (l r : Int) : Int := if s = 0 then l else r
def mkW (rs : Rows) (l r : Int) (s : Nat) (h o : Int) : Way := (((chain rs (1 - s) (pick (1 - s) l r) h o).length : Int), h, o, chain rs (1 - s) (pick (1 - s) l r) h o)
def waysH (rs : Rows) (l r : Int) (many s : Nat) (h : Int) : List Way := (free rs (1 - s) (pick (1 - s) l r) many).map (mkW rs l r s h)
def waysS (rs : Rows) (l r : Int) (many s : Nat) : List Way := (free rs s (pick s l r) many).flatMap (waysH rs l r many s)
def ways (rs : Rows) (l r : Int) (many : Nat) : List Way := waysS rs l r many 0 ++ waysS rs l r many 1
def ltW (y a : Way) : Bool := PySem.W.dataLt (toPy (encW y)) (toPy (encW a))
def minW (w : Way) (ws : List Way) : Way := ws.foldl (fun a y => if ltW y a = true then y else a) w
theorem minW_enc (w : Way) (ws : List Way) : minDD (encW w) (ws.map encW) = encW (minW w ws) := by
  unfold minDD minW
  induction ws generalizing w with
  | nil => rfl
  | cons y ys ih =>
    rw [List.map_cons, List.foldl_cons, List.foldl_cons, ← ih]
    unfold ltW
    cases PySem.W.dataLt (toPy (encW y)) (toPy (encW w)) <;> rfl
theorem minW_mem (w : Way) (ws : List Way) : minW w ws ∈ w :: ws := by
  unfold minW
  induction ws generalizing w with
  | nil => simp
  | cons y ys ih =>
    rw [List.foldl_cons]
    rcases List.mem_cons.mp (ih (if ltW y w = true then y else w)) with h | h
    · rw [h]; split <;> simp
    · exact List.mem_cons_of_mem _ (List.mem_cons_of_mem _ h)
theorem ltW_ne {y a : Way} (h : y.1 ≠ a.1) : ltW y a = decide (y.1 < a.1) := by
  unfold ltW encW
  rw [toPy, toPy, PySem.W.dataLt_tuple]
  simp only [toPys, toPy]
  rw [PySem.W.dataLt_all_no (by simp only [PySem.W.alike]) (by simp only [PyData.eqv]; simpa using h), PySem.W.dataLt_int]
theorem minW_le (w : Way) (ws : List Way) : ∀ y ∈ w :: ws, (minW w ws).1 ≤ y.1 := by
  unfold minW
  induction ws generalizing w with
  | nil => intro y hy; rw [List.mem_singleton.mp hy]; exact Int.le_refl _
  | cons z zs ih =>
    intro y hy
    rw [List.foldl_cons]
    have h0 := ih (if ltW z w = true then z else w)
    have hw : (if ltW z w = true then z else w).1 ≤ w.1 ∧ (if ltW z w = true then z else w).1 ≤ z.1 := by
      by_cases c : z.1 = w.1
      · split
        · rw [c]; exact ⟨Int.le_refl _, Int.le_refl _⟩
        · rw [c]; exact ⟨Int.le_refl _, Int.le_refl _⟩
      · rw [ltW_ne c]
        by_cases d : z.1 < w.1
        · rw [decide_eq_true d, if_pos rfl]; exact ⟨by omega, Int.le_refl _⟩
        · rw [decide_eq_false d, if_neg (by decide)]; exact ⟨Int.le_refl _, by omega⟩
    have h1 := h0 _ List.mem_cons_self
    rcases List.mem_cons.mp hy with e | hy
    · rw [e]; omega
    · rcases List.mem_cons.mp hy with e | hy
      · rw [e]; omega
      · exact h0 y (List.mem_cons_of_mem _ hy)
theorem flat_len {α β : Type} {f : α → List β} {n : Nat} (h : ∀ x, (f x).length ≤ n) : ∀ L : List α, (L.flatMap f).length ≤ L.length * n
  | [] => by simp
  | x :: L => by
    rw [List.flatMap_cons, List.length_append, List.length_cons, Nat.succ_mul]
    have := flat_len h L
    have := h x
    omega
theorem waysH_len (rs : Rows) (l r : Int) (many s : Nat) (h : Int) : (waysH rs l r many s h).length ≤ many := by
  unfold waysH
  rw [List.length_map]
  exact free_len _ _ _ _
theorem waysS_len (rs : Rows) (l r : Int) (many s : Nat) : (waysS rs l r many s).length ≤ many * many := by
  unfold waysS
  exact Nat.le_trans (flat_len (waysH_len rs l r many s) _) (Nat.mul_le_mul_right _ (free_len _ _ _ _))
def both (rs : Rows) (l r : Int) (many : Nat) : List Int := (free rs 0 l many).filter fun h => decide (h ∈ free rs 1 r many)
structure Gv where
  hue : Int
  other : Option Int
  ns : List Int
  rows : Rows
def given (rs : Rows) (l r : Int) (many : Nat) : Gv := match both rs l r many with
  | h :: _ => ⟨h, none, [], rs⟩
  | [] => match ways rs l r many with
    | [] => ⟨0, none, [], rs⟩
    | w :: ws => ⟨(minW w ws).2.1, some (minW w ws).2.2.1, (minW w ws).2.2.2, turn rs (minW w ws).2.2.2 (minW w ws).2.1 (minW w ws).2.2.1⟩
theorem mem_waysS {rs : Rows} {l r : Int} {many s : Nat} {w : Way} (h : w ∈ waysS rs l r many s) : w.2.1 ∈ free rs s (pick s l r) many ∧ w.2.2.1 ∈ free rs (1 - s) (pick (1 - s) l r) many ∧ w.2.2.2 = chain rs (1 - s) (pick (1 - s) l r) w.2.1 w.2.2.1 ∧ w.1 = (w.2.2.2.length : Int) := by
  unfold waysS at h
  obtain ⟨a, ha, h⟩ := List.mem_flatMap.mp h
  obtain ⟨b, hb, e⟩ := List.mem_map.mp h
  subst e
  exact ⟨ha, hb, rfl, rfl⟩
theorem mem_ways {rs : Rows} {l r : Int} {many : Nat} {w : Way} (h : w ∈ ways rs l r many) : ∃ s < 2, w ∈ waysS rs l r many s := by
  rcases List.mem_append.mp h with h | h
  · exact ⟨0, by decide, h⟩
  · exact ⟨1, by decide, h⟩
/-- all hues below many -/
def Fit (rs : Rows) (many : Nat) : Prop := ∀ x ∈ rs, 0 ≤ hueOf x.2 ∧ hueOf x.2 < many
theorem free_ne {rs : Rows} {s : Nat} {e : Int} {many : Nat} (h : ((rs.map fun x => endOf s x.2).count e) < many) : free rs s e many ≠ [] := by
  have hl : ((rs.filter fun x => decide (endOf s x.2 = e)).map fun x => hueOf x.2).length ≤ many - 1 := by
    rw [List.length_map]
    have : (rs.filter fun x => decide (endOf s x.2 = e)).length = (rs.map fun x => endOf s x.2).count e := by
      rw [List.count_eq_countP, List.countP_map, List.countP_eq_length_filter]
      congr 1
    omega
  obtain ⟨m, hm, _⟩ := free_num _ _ hl
  obtain ⟨i, hi, rfl⟩ := List.mem_map.mp hm
  rw [List.mem_filter, List.mem_range] at hi
  intro hnil
  have : (i : Int) ∈ free rs s e many := by
    rw [mem_free]
    refine ⟨by omega, by omega, idx_none.mpr fun x hx he hh => ?_⟩
    have hi2 := hi.2
    simp only [Bool.not_eq_true', decide_eq_false_iff_not] at hi2
    exact hi2 (List.mem_map.mpr ⟨x, List.mem_filter.mpr ⟨hx, decide_eq_true he⟩, hh⟩)
  rw [hnil] at this
  cases this
section
variable {rs : Rows} {l r : Int} {many : Nat}
theorem ways_ne (h0 : free rs 0 l many ≠ []) (h1 : free rs 1 r many ≠ []) : ways rs l r many ≠ [] := by
  obtain ⟨a, ha⟩ := List.exists_mem_of_ne_nil _ h0
  obtain ⟨b, hb⟩ := List.exists_mem_of_ne_nil _ h1
  intro h
  have : (((chain rs 1 r a b).length : Int), a, b, chain rs 1 r a b) ∈ ways rs l r many := List.mem_append.mpr (.inl (List.mem_flatMap.mpr ⟨a, ha, List.mem_map.mpr ⟨b, hb, rfl⟩⟩))
  rw [h] at this
  cases this
/-- what the given hue is -/
structure GvOk (rs : Rows) (l r : Int) (many : Nat) (g : Gv) : Prop where
  proper : Proper g.rows
  fit : Fit g.rows many
  left : idx g.rows 0 l g.hue = none
  right : idx g.rows 1 r g.hue = none
  hue0 : 0 ≤ g.hue
  hue1 : g.hue < many
  keys : keys g.rows = keys rs
  ends : ∀ s, g.rows.map (fun x => endOf s x.2) = rs.map fun x => endOf s x.2
theorem given_ok (P : Proper rs) (hn : (keys rs).Nodup) (F : Fit rs many) (hl : ((rs.map fun x => endOf 0 x.2).count l) < many) (hr : ((rs.map fun x => endOf 1 x.2).count r) < many) : GvOk rs l r many (given rs l r many) := by
  unfold given
  cases hb : both rs l r many with
  | cons h t =>
    have hm : h ∈ both rs l r many := by rw [hb]; exact List.mem_cons_self
    unfold both at hm
    rw [List.mem_filter, decide_eq_true_eq, mem_free, mem_free] at hm
    exact ⟨P, F, hm.1.2.2, hm.2.2.2, hm.1.1, hm.1.2.1, rfl, fun _ => rfl⟩
  | nil =>
    cases hw : ways rs l r many with
    | nil => exact absurd hw (ways_ne (free_ne hl) (free_ne hr))
    | cons w ws =>
      have hm := minW_mem w ws
      rw [← hw] at hm
      show GvOk rs l r many ⟨(minW w ws).2.1, some (minW w ws).2.2.1, (minW w ws).2.2.2, turn rs (minW w ws).2.2.2 (minW w ws).2.1 (minW w ws).2.2.1⟩
      generalize minW w ws = m at hm ⊢
      obtain ⟨s, hs, hm⟩ := mem_ways hm
      obtain ⟨m1, m2, m3, m4⟩ := mem_waysS hm
      rw [mem_free] at m1 m2
      have hne : m.2.1 ≠ m.2.2.1 := fun e => by
        have h0 : m.2.1 ∈ both rs l r many := by
          unfold both
          rw [List.mem_filter, decide_eq_true_eq, mem_free, mem_free]
          rcases (show s = 0 ∨ s = 1 by omega) with rfl | rfl
          · exact ⟨m1, by rw [e]; exact m2⟩
          · exact ⟨by rw [e]; exact m2, m1⟩
        rw [hb] at h0
        cases h0
      have hs1 : 1 - s < 2 := by omega
      have hc := chain_ch P hn (w := m.2.1) hs1 m2.2.2
      rw [← m3] at hc
      have far := turn_far P hn hs1 hne m2.2.2 hc
      have near := turn_near P hn hs1 hne m2.2.2 hc (f := pick s l r) (by rw [show 1 - (1 - s) = s by omega]; exact m1.2.2)
      rw [show 1 - (1 - s) = s by omega] at near
      refine ⟨turn_proper P hn hs1 hne m2.2.2 hc, ?_, ?_, ?_, m1.1, m1.2.1, turn_keys _ _ _ _, fun s => turn_ends _ _ _ _ s⟩
      · intro y hy
        obtain ⟨x, hx, x1, x2, x3, x4⟩ := turn_mem hy
        by_cases c : x.1 ∈ m.2.2.2
        · rw [x3 c]
          show 0 ≤ (if hueOf x.2 = m.2.2.1 then m.2.1 else m.2.2.1) ∧ (if hueOf x.2 = m.2.2.1 then m.2.1 else m.2.2.1) < (many : Int)
          split
          · exact ⟨m1.1, m1.2.1⟩
          · exact ⟨m2.1, m2.2.1⟩
        · rw [x4 c]; exact F x hx
      · rcases (show s = 0 ∨ s = 1 by omega) with rfl | rfl
        · exact near
        · exact far
      · rcases (show s = 0 ∨ s = 1 by omega) with rfl | rfl
        · exact far
        · exact near
end
end Ph
end

section
set_option maxRecDepth 100000
set_option maxHeartbeats 4000000
/-! D4y: loops and comprehensions over dicts. -/
namespace D4
open PySem L2
/-- what stood, but for the cells l, stands -/
def SubX (l : List Addr) (M M' : Mp) : Prop := ∀ x c, x ∉ l → M x = some c → M' x = some c
theorem SubX.refl {l : List Addr} {M : Mp} : SubX l M M := fun _ _ _ h => h
theorem SubX.trans {l : List Addr} {M M1 M2 : Mp} (a : SubX l M M1) (b : SubX l M1 M2) : SubX l M M2 := fun x c hx h => b x c hx (a x c hx h)
theorem SubX.wr {l : List Addr} {M : Mp} {a : Addr} {c : C} (h : a ∈ l) : SubX l M (um M a c) := fun x c' hx e => by rw [um_ne (fun z => hx (by rw [z]; exact h))]; exact e
theorem SubX.new {l : List Addr} {M : Mp} {a : Addr} {c : C} (h : M a = none) : SubX l M (um M a c) := fun x c' hx e => um_old e h
theorem SubX.more {l l' : List Addr} {M M' : Mp} (h : SubX l M M') (s : ∀ a ∈ l, a ∈ l') : SubX l' M M' := fun x c hx e => h x c (fun z => hx (s x z)) e
theorem Sub.x {l : List Addr} {M M' : Mp} (h : Sub M M') : SubX l M M' := fun x c _ e => h x c e
theorem SubX.at {l : List Addr} {M M' : Mp} {a : Addr} {c : C} (h : SubX l M M') (e : M a = some c) (hx : a ∉ l) : M' a = some c := h a c hx e
/-- a cell that is as it was, one that is new -/
theorem SubX.sub {l : List Addr} {M M' : Mp} (h : SubX l M M') (k : ∀ a ∈ l, ∀ c, M a = some c → M' a = some c) : Sub M M' := fun x c e => by
  by_cases hx : x ∈ l
  · exact k x hx c e
  · exact h x c hx e
/-- back to what was, but for a new cell -/
theorem SubX.back1 {M M' : Mp} {a p : Addr} {c c' : C} (h : SubX [a, p] M M') (ha : M a = some c) (ha' : M' a = some c) (hp' : M' p = some c') : Sub (um M p c') M' := fun x d e => by
  by_cases e1 : x = p
  · subst e1; rw [um_same] at e; cases e; exact hp'
  · rw [um_ne e1] at e
    by_cases e2 : x = a
    · subst e2; rw [ha] at e; cases e; exact ha'
    · exact h x d (by simp [e1, e2]) e
section
variable {X : Cx} {b : Bs} {δ : Od} {M : Mp} {e o k e1 e2 tg elt iter : Expr} {es ifs : List Expr} {Φ : Mp → D → Prop} {Ψ : Xs} {d d1 d2 : D} {ds xs : List D} {pos p p2 apos cpos tpos : Pos} {x : Str} {ps : List Str} {j l : Nat} {a : Addr} {kvs : List (Int × D)} {elts : List Expr} {kk : Nat}
/-- the ends inside of a loop over a locked dict -/
def lkE (a : Addr) (z kvs : C) (E : DE) (N : Mp → Od → Prop) : DE := ⟨fun M' δ' => M' a = some z ∧ N M' δ', fun M' d => M' a = some z ∧ E.rt (um M' a kvs) d, fun M' δ' => M' a = some z ∧ E.nx (um M' a kvs) δ', fun M' δ' => M' a = some z ∧ N M' δ', fun _ _ _ => False⟩
theorem sw_forItems {E : DE} {body : List Stmt} (I : Nat → Mp → Od → Prop) (hp : PassesOwn (model X.prog X.w) X.A X.env X.xe) (hc : X.calm = true) (hm : M a = some (.dI kvs)) (ho : ∀ b' z, EV X b' δ (um M a z) o (.loc (.ref a))) (h0 : ∀ z, I 0 (um M a z) δ)
    (hst : ∀ b' z, (∀ p, Wr b' p ↔ Wr b p) → (∃ od ws, z = .dZ od kvs ws) → ∀ i kv M' δ', kvs[i]? = some kv → M' a = some z → I i M' δ' → GW X b' δ' M' (.Tuple elts kk tpos) (.tup [.int kv.1, kv.2]) fun M2 δ2 => SWs X b' δ2 M2 body (lkE a z (.dI kvs) E (I (i + 1))))
    (hE : ∀ M' δ' z, M' a = some z → I kvs.length M' δ' → E.nx (um M' a (.dI kvs)) δ') (hbase : attributeBase o "items" X.env (eval o X.env) = eval o X.env := by rfl) (hline : (apos.endLine == cpos.line) = true := by rfl) : SW X b δ M (.For (.Tuple elts kk tpos) (.Call (.Attribute o "items" apos) [] [] cpos) body [] pos) E := by
  refine sw_lock hm fun b' od ws hW => ?_
  refine sw_for hp hc (iw_items (ho b' _) um_same ⟨fun i M' δ' => M' a = some (.dZ od kvs ws) ∧ I i M' δ', ⟨um_same, h0 _⟩, fun i M' δ' z => z.1, fun i d M' δ' hi z => ?_, fun M' δ' z => ?_⟩ hbase hline)
  · rw [List.getElem?_map] at hi
    cases q : kvs[i]? with
    | none => rw [q] at hi; cases hi
    | some kv => rw [q] at hi; cases hi; exact hst b' _ hW ⟨od, ws, rfl⟩ i kv M' δ' q z.1 z.2
  · rw [List.length_map] at z
    exact ⟨z.1, hE M' δ' _ z.1 z.2⟩
theorem sw_forKeys {E : DE} {body : List Stmt} (I : Nat → Mp → Od → Prop) (hp : PassesOwn (model X.prog X.w) X.A X.env X.xe) (hc : X.calm = true) (hm : M a = some (.dI kvs)) (ho : ∀ b' z, EV X b' δ (um M a z) o (.loc (.ref a))) (h0 : ∀ z, I 0 (um M a z) δ)
    (hst : ∀ b' z, (∀ p, Wr b' p ↔ Wr b p) → (∃ od ws, z = .dZ od kvs ws) → ∀ i kv M' δ', kvs[i]? = some kv → M' a = some z → I i M' δ' → GW X b' δ' M' tg (.int kv.1) fun M2 δ2 => SWs X b' δ2 M2 body (lkE a z (.dI kvs) E (I (i + 1))))
    (hE : ∀ M' δ' z, M' a = some z → I kvs.length M' δ' → E.nx (um M' a (.dI kvs)) δ') (hs : ∀ x, foldedSetIterable o X.env x = pure x := by exact fun _ => rfl) : SW X b δ M (.For tg o body [] pos) E := by
  refine sw_lock hm fun b' od ws hW => ?_
  refine sw_for hp hc (iw_keys (ho b' _) um_same ⟨fun i M' δ' => M' a = some (.dZ od kvs ws) ∧ I i M' δ', ⟨um_same, h0 _⟩, fun i M' δ' z => z.1, fun i d M' δ' hi z => ?_, fun M' δ' z => ?_⟩) hs
  · rw [List.getElem?_map] at hi
    cases q : kvs[i]? with
    | none => rw [q] at hi; cases hi
    | some kv => rw [q] at hi; cases hi; exact hst b' _ hW ⟨od, ws, rfl⟩ i kv M' δ' q z.1 z.2
  · rw [List.length_map] at z
    exact ⟨z.1, hE M' δ' _ z.1 z.2⟩
theorem sw_forVals {E : DE} {body : List Stmt} (I : Nat → Mp → Od → Prop) (hp : PassesOwn (model X.prog X.w) X.A X.env X.xe) (hc : X.calm = true) (hm : M a = some (.dI kvs)) (ho : ∀ b' z, EV X b' δ (um M a z) o (.loc (.ref a))) (h0 : ∀ z, I 0 (um M a z) δ)
    (hst : ∀ b' z, (∀ p, Wr b' p ↔ Wr b p) → (∃ od ws, z = .dZ od kvs ws) → ∀ i kv M' δ', kvs[i]? = some kv → M' a = some z → I i M' δ' → GW X b' δ' M' tg kv.2 fun M2 δ2 => SWs X b' δ2 M2 body (lkE a z (.dI kvs) E (I (i + 1))))
    (hE : ∀ M' δ' z, M' a = some z → I kvs.length M' δ' → E.nx (um M' a (.dI kvs)) δ') (hbase : attributeBase o "values" X.env (eval o X.env) = eval o X.env := by rfl) (hline : (apos.endLine == cpos.line) = true := by rfl) : SW X b δ M (.For tg (.Call (.Attribute o "values" apos) [] [] cpos) body [] pos) E := by
  refine sw_lock hm fun b' od ws hW => ?_
  refine sw_for hp hc (iw_vals (ho b' _) um_same ⟨fun i M' δ' => M' a = some (.dZ od kvs ws) ∧ I i M' δ', ⟨um_same, h0 _⟩, fun i M' δ' z => z.1, fun i d M' δ' hi z => ?_, fun M' δ' z => ?_⟩ hbase hline)
  · rw [List.getElem?_map] at hi
    cases q : kvs[i]? with
    | none => rw [q] at hi; cases hi
    | some kv => rw [q] at hi; cases hi; exact hst b' _ hW ⟨od, ws, rfl⟩ i kv M' δ' q z.1 z.2
  · rw [List.length_map] at z
    exact ⟨z.1, hE M' δ' _ z.1 z.2⟩
section
variable {scope : Scope} {α : Type} {xs : List α} {iter : Expr}
/-- a comprehension over the values, the keys of a dict -/
theorem ev_lcV (own : List (Str × Nat)) (js : List Nat) (t : α → Bool) (f : α → D) (g : α → List D) (key : α → Int) (enc : α → D) (hc : X.calm = true) (hN : X.N.Nodup) (hm : M a = some (.dI (xs.map fun x => (key x, enc x)))) (ho : ∀ b' z, EV X b' δ (um M a z) o (.loc (.ref a))) (hl : xs.length ≤ 100000)
    (htg : ∀ x ∈ xs, ∀ s' H' Cc cl fp, GS (Blk X scope s' H' Cc cl fp) tg (enc x) js (g x))
    (hturn : ∀ b' z, (∀ p, Wr b' p ↔ Wr b p) → (∃ od ws, z = .dZ od (xs.map fun x => (key x, enc x)) ws) → ∀ x ∈ xs, ∀ M2, Sub (um M a z) M2 → TurnP X scope b' (setD (wD δ (own.map (·.2))) js (g x)) M2 ifs elt (t x) (f x)) (ok : BlkOk X.N X.env.scope scope own := by exact blkOk_by (by dsimp only [L2.cxOf, PyProof.Rows.envOfC]; decide +kernel)) (hif : ifs.length ≤ 1 := by decide) (hjs : ∀ j ∈ js, j ∈ own.map (·.2) := by decide)
    (hbase : attributeBase o "values" X.env (eval o X.env) = eval o X.env := by rfl) (hline : (apos.endLine == cpos.line) = true := by rfl) : EV X b δ M (.ListComp elt [⟨tg, .Call (.Attribute o "values" apos) [] [] cpos, ifs, 0⟩] scope pos) (.lst ((xs.filter t).map f)) := by
  refine ev_lock hm fun b' od ws hW => ew_lc (xs := xs) (enc := enc) (t := t) (f := f) (g := g) hc hN ok ?_ hif hjs (fun _ => rfl)
  refine iw_vals (ho b' _) um_same ⟨by rw [List.map_map]; rfl, hl, fun M2 s => s _ _ um_same, htg, fun x hx M2 s => hturn b' _ hW ⟨od, ws, rfl⟩ x hx M2 s, ⟨rfl, rfl⟩⟩ hbase hline
theorem ev_lcK (own : List (Str × Nat)) (js : List Nat) (t : α → Bool) (f : α → D) (g : α → List D) (key : α → Int) (enc : α → D) (hc : X.calm = true) (hN : X.N.Nodup) (hm : M a = some (.dI (xs.map fun x => (key x, enc x)))) (ho : ∀ b' z, EV X b' δ (um M a z) iter (.loc (.ref a))) (hl : xs.length ≤ 100000)
    (htg : ∀ x ∈ xs, ∀ s' H' Cc cl fp, GS (Blk X scope s' H' Cc cl fp) tg (.int (key x)) js (g x))
    (hturn : ∀ b' z, (∀ p, Wr b' p ↔ Wr b p) → (∃ od ws, z = .dZ od (xs.map fun x => (key x, enc x)) ws) → ∀ x ∈ xs, ∀ M2, Sub (um M a z) M2 → TurnP X scope b' (setD (wD δ (own.map (·.2))) js (g x)) M2 ifs elt (t x) (f x)) (ok : BlkOk X.N X.env.scope scope own := by exact blkOk_by (by dsimp only [L2.cxOf, PyProof.Rows.envOfC]; decide +kernel)) (hif : ifs.length ≤ 1 := by decide) (hjs : ∀ j ∈ js, j ∈ own.map (·.2) := by decide)
    (hs : ∀ x, foldedSetIterable iter X.env x = pure x := by exact fun _ => rfl) : EV X b δ M (.ListComp elt [⟨tg, iter, ifs, 0⟩] scope pos) (.lst ((xs.filter t).map f)) := by
  refine ev_lock hm fun b' od ws hW => ew_lc (xs := xs) (enc := fun x => .int (key x)) (t := t) (f := f) (g := g) hc hN ok ?_ hif hjs hs
  refine iw_keys (ho b' _) um_same ⟨by rw [List.map_map]; rfl, hl, fun M2 s => s _ _ um_same, htg, fun x hx M2 s => hturn b' _ hW ⟨od, ws, rfl⟩ x hx M2 s, ⟨rfl, rfl⟩⟩
/-- name = [..] of the values, the keys of a dict -/
theorem sw_setV (i : Nat) (own : List (Str × Nat)) (js : List Nat) (t : α → Bool) (f : α → D) (g : α → List D) (key : α → Int) (enc : α → D) {E : DE} {y : Str} {py spos : Pos} (hc : X.calm = true) (hN : X.N.Nodup) (hm : M a = some (.dI (xs.map fun x => (key x, enc x)))) (ho : ∀ b' z, EV X b' δ (um M a z) o (.loc (.ref a))) (hl : xs.length ≤ 100000)
    (htg : ∀ x ∈ xs, ∀ s' H' Cc cl fp, GS (Blk X scope s' H' Cc cl fp) tg (enc x) js (g x))
    (hturn : ∀ b' z, (∀ p, Wr b' p ↔ Wr b p) → (∃ od ws, z = .dZ od (xs.map fun x => (key x, enc x)) ws) → ∀ x ∈ xs, ∀ M2, Sub (um M a z) M2 → TurnP X scope b' (setD (wD δ (own.map (·.2))) js (g x)) M2 ifs elt (t x) (f x)) (q : E.nx M (δ.set i (some (.lst ((xs.filter t).map f))))) (ok : BlkOk X.N X.env.scope scope own := by exact blkOk_by (by dsimp only [L2.cxOf, PyProof.Rows.envOfC]; decide +kernel)) (hy : X.N[i]? = some y := by rfl) (hyl : X.env.scope.names.lookup y = some .local := by rfl)
    (hsw : swapsWith (.ListComp elt [⟨tg, .Call (.Attribute o "values" apos) [] [] cpos, ifs, 0⟩] scope pos) (some (.Name y py)) spos.line X.env = pure true := by exact sw_true rfl rfl rfl (by decide +kernel)) (hif : ifs.length ≤ 1 := by decide) (hjs : ∀ j ∈ js, j ∈ own.map (·.2) := by decide)
    (hbase : attributeBase o "values" X.env (eval o X.env) = eval o X.env := by rfl) (hline : (apos.endLine == cpos.line) = true := by rfl) : SW X b δ M (.Assign [.Name y py] (.ListComp elt [⟨tg, .Call (.Attribute o "values" apos) [] [] cpos, ifs, 0⟩] scope pos) spos) E := by
  have eM : ∀ z, um (um M a z) a (.dI (xs.map fun x => (key x, enc x))) = M := fun z => by
    rw [um_um]
    funext x
    by_cases hx : x = a
    · subst hx; rw [um_same, hm]
    · rw [um_ne hx]
  refine sw_lock hm fun b' od ws hW => sw_setLc (xs := xs) (enc := enc) (t := t) (f := f) (g := g) i hc hN ok ?_ hy hyl hsw hif hjs (fun _ => rfl)
  refine iw_vals (ho b' _) um_same ⟨by rw [List.map_map]; rfl, hl, fun M2 s => s _ _ um_same, htg, fun x hx M2 s => hturn b' _ hW ⟨od, ws, rfl⟩ x hx M2 s, ⟨um_same, by rw [eM]; exact q⟩⟩ hbase hline
end
end
end D4
end

section
set_option maxRecDepth 100000
set_option maxHeartbeats 4000000
/-! D4z: a new list that is not changed any more; defs that give new lists. -/
namespace D4
open PySem L2
section
variable {X : Cx} {b : Bs} {δ : Od} {M : Mp} {e o : Expr} {es : List Expr} {Φ : Mp → D → Prop} {Ψ : Xs} {d : D} {ds xs : List D} {pos p : Pos} {x : Str} {ps : List Str} {j l : Nat} {S : FSp}
theorem EW.frz (h : EW X b δ M e (fun M1 d => ∃ a xs, d = .loc (.ref a) ∧ M1 a = some (.lst xs) ∧ Nw b a ∧ Φ (dm M1 a) (.lst xs)) Ψ) : EW X b δ M e Φ Ψ := fun R mR σ H Q SH k kx => by
  refine h R mR σ H Q SH (fun M' d v H' ⟨a, xs, e1, hm, hw, p⟩ ⟨G, S', z1, z2, z3⟩ => ?_) kx
  subst e1
  have ev := Rep.loc_iff.mp z3
  subst ev
  obtain ⟨G', S2, sg, r⟩ := S'.freeze hm hw
  exact k _ _ _ H' p ⟨G', S2, Mono.env _ _ sg z1, mR _ _ sg z2, r⟩
/-- a def that changes nothing that stood, and gives a new list -/
def FreshS (P : Mp → List D → List D → Prop) : FSp := fun _ fr M ds Φ _ => ∃ xs, P M ds xs ∧ ∀ q, fr q → M q = none → Φ (um M q (.lst xs)) (.loc (.ref q))
theorem CallS.fresh {P : Mp → List D → List D → Prop} (h : P M ds xs) (q : ∀ a, M a = none → Nw b a → Φ (um M a (.lst xs)) (.loc (.ref a))) : CallS b (FreshS P) M ds Φ Ψ := CallS.of fun fr hf => ⟨xs, h, fun a ha hm => q a hm (hf a ha).2⟩
/-- .. which stays as it is -/
theorem CallS.freshL {P : Mp → List D → List D → Prop} (h : P M ds xs) (q : Φ M (.lst xs)) : CallS b (FreshS P) M ds (fun M1 d => ∃ a xs, d = .loc (.ref a) ∧ M1 a = some (.lst xs) ∧ Nw b a ∧ Φ (dm M1 a) (.lst xs)) Ψ := .fresh h fun a hm hw => ⟨a, xs, rfl, um_same, hw, by rw [dm_um hm]; exact q⟩
theorem ev_callF {P : Mp → List D → List D → Prop} (G : OkF X.prog X.w X.K X.mg X.base x ps j (FreshS P)) (hr : Room l X.A) (hg : Gl X x) (h : EVs X b δ M (e :: es) ds) (hP : P M ds xs) (hj : j ≤ l := by decide) (hdb : (x == ("__debug__" : Str)) = false := by decide) (he : starEach (e :: es) X.env = (false, eval e X.env) :: starEach es X.env := by exact D4.starEach_c rfl) (hpl : (backTo pos (starEach es X.env)).any (·.1) = false := by exact D4.back_any rfl) :
    EV X b δ M (.Call (.Name x p) (e :: es) [] pos) (.lst xs) := EW.frz (ew_callO G hr hg (h.to (.freshL hP ⟨rfl, rfl⟩)) hj hdb he hpl)
end
end D4
end

section
set_option maxRecDepth 100000
set_option maxHeartbeats 4000000
namespace Ph
open PySem L2
def topS (i : Nat) : Stmt := PySem.Challenge.pw_pairhues_k11_whole_lines_played.main.body.getD i (.Pass ⟨0, 0, 0, 0⟩)
abbrev s_wall : Stmt := topS 0
theorem sc_wall : FnScope ["k"] ["k"] (defScope s_wall) := ⟨rfl, rfl, rfl, by decide +kernel, rfl, by decide +kernel, by decide +kernel⟩
abbrev s_index_of : Stmt := topS 12
theorem sc_index_of : FnScope ["rows", "found", "number", "row"] ["rows"] (defScope s_index_of) := ⟨rfl, rfl, rfl, by decide +kernel, rfl, by decide +kernel, by decide +kernel⟩
abbrev s_free_at : Stmt := topS 13
theorem sc_free_at : FnScope ["rows", "side", "end", "many", "index", "hue"] ["rows", "side", "end", "many"] (defScope s_free_at) := ⟨rfl, rfl, rfl, by decide +kernel, rfl, by decide +kernel, by decide +kernel⟩
abbrev s_chain_from : Stmt := topS 14
theorem sc_chain_from : FnScope ["rows", "side", "end", "one", "other", "index", "found", "hues", "number"] ["rows", "side", "end", "one", "other"] (defScope s_chain_from) := ⟨rfl, rfl, rfl, by decide +kernel, rfl, by decide +kernel, by decide +kernel⟩
abbrev s_turned : Stmt := topS 15
theorem sc_turned : FnScope ["rows", "numbers", "one", "other", "found", "number", "left", "right", "hue"] ["rows", "numbers", "one", "other"] (defScope s_turned) := ⟨rfl, rfl, rfl, by decide +kernel, rfl, by decide +kernel, by decide +kernel⟩
abbrev s_ways : Stmt := topS 17
theorem sc_ways : FnScope ["rows", "ends", "many", "found", "side", "far", "hue", "other", "numbers"] ["rows", "ends", "many"] (defScope s_ways) := ⟨rfl, rfl, rfl, by decide +kernel, rfl, by decide +kernel, by decide +kernel⟩
abbrev s_hue_given : Stmt := topS 18
theorem sc_hue_given : FnScope ["rows", "ends", "many", "right", "both", "size", "hue", "other", "numbers"] ["rows", "ends", "many"] (defScope s_hue_given) := ⟨rfl, rfl, rfl, by decide +kernel, rfl, by decide +kernel, by decide +kernel⟩
abbrev s_fulls : Stmt := topS 20
theorem sc_fulls : FnScope ["rows", "side", "found", "row"] ["rows", "side"] (defScope s_fulls) := ⟨rfl, rfl, rfl, by decide +kernel, rfl, by decide +kernel, by decide +kernel⟩
abbrev s_count_of : Stmt := topS 21
theorem sc_count_of : FnScope ["rows"] ["rows"] (defScope s_count_of) := ⟨rfl, rfl, rfl, by decide +kernel, rfl, by decide +kernel, by decide +kernel⟩
abbrev s_is_among : Stmt := topS 26
theorem sc_is_among : FnScope ["thing", "least", "most"] ["thing", "least", "most"] (defScope s_is_among) := ⟨rfl, rfl, rfl, by decide +kernel, rfl, by decide +kernel, by decide +kernel⟩
abbrev s_Hall___init : Stmt := inClass (topS 27) 0
theorem sc_Hall___init : FnScope ["self", "lefts", "rights"] ["self", "lefts", "rights"] (defScope s_Hall___init) := ⟨rfl, rfl, rfl, by decide +kernel, rfl, by decide +kernel, by decide +kernel⟩
abbrev s_Hall_need_pair : Stmt := inClass (topS 27) 1
theorem sc_Hall_need_pair : FnScope ["self", "number"] ["self", "number"] (defScope s_Hall_need_pair) := ⟨rfl, rfl, rfl, by decide +kernel, rfl, by decide +kernel, by decide +kernel⟩
abbrev s_Hall_place_of : Stmt := inClass (topS 27) 2
theorem sc_Hall_place_of : FnScope ["self", "side", "end", "found"] ["self", "side", "end"] (defScope s_Hall_place_of) := ⟨rfl, rfl, rfl, by decide +kernel, rfl, by decide +kernel, by decide +kernel⟩
abbrev s_Hall_put : Stmt := inClass (topS 27) 3
theorem sc_Hall_put : FnScope ["self", "number", "left", "right", "many", "hue", "other", "numbers", "rows"] ["self", "number", "left", "right", "many"] (defScope s_Hall_put) := ⟨rfl, rfl, rfl, by decide +kernel, rfl, by decide +kernel, by decide +kernel⟩
abbrev s_Hall_come : Stmt := inClass (topS 27) 4
theorem sc_Hall_come : FnScope ["self", "left", "right", "many"] ["self", "left", "right"] (defScope s_Hall_come) := ⟨rfl, rfl, rfl, by decide +kernel, rfl, by decide +kernel, by decide +kernel⟩
abbrev s_Hall_go : Stmt := inClass (topS 27) 5
theorem sc_Hall_go : FnScope ["self", "number", "many", "told", "other", "left", "right", "hue"] ["self", "number"] (defScope s_Hall_go) := ⟨rfl, rfl, rfl, by decide +kernel, rfl, by decide +kernel, by decide +kernel⟩
abbrev s_Hall_count : Stmt := inClass (topS 27) 6
theorem sc_Hall_count : FnScope ["self"] ["self"] (defScope s_Hall_count) := ⟨rfl, rfl, rfl, by decide +kernel, rfl, by decide +kernel, by decide +kernel⟩
abbrev s_Hall_pairs : Stmt := inClass (topS 27) 7
theorem sc_Hall_pairs : FnScope ["self", "number"] ["self"] (defScope s_Hall_pairs) := ⟨rfl, rfl, rfl, by decide +kernel, rfl, by decide +kernel, by decide +kernel⟩
abbrev s_Hall_hue_of : Stmt := inClass (topS 27) 8
theorem sc_Hall_hue_of : FnScope ["self", "number"] ["self", "number"] (defScope s_Hall_hue_of) := ⟨rfl, rfl, rfl, by decide +kernel, rfl, by decide +kernel, by decide +kernel⟩
abbrev s_Hall_of_hue : Stmt := inClass (topS 27) 9
theorem sc_Hall_of_hue : FnScope ["self", "hue"] ["self", "hue"] (defScope s_Hall_of_hue) := ⟨rfl, rfl, rfl, by decide +kernel, rfl, by decide +kernel, by decide +kernel⟩
abbrev s_Hall_free : Stmt := inClass (topS 27) 10
theorem sc_Hall_free : FnScope ["self", "side", "end"] ["self", "side", "end"] (defScope s_Hall_free) := ⟨rfl, rfl, rfl, by decide +kernel, rfl, by decide +kernel, by decide +kernel⟩
abbrev s_Hall_fullest : Stmt := inClass (topS 27) 11
theorem sc_Hall_fullest : FnScope ["self", "many", "found", "side", "full", "end"] ["self"] (defScope s_Hall_fullest) := ⟨rfl, rfl, rfl, by decide +kernel, rfl, by decide +kernel, by decide +kernel⟩
abbrev s_Hall_chain : Stmt := inClass (topS 27) 12
theorem sc_Hall_chain : FnScope ["self", "side", "end", "one", "other", "place", "many"] ["self", "side", "end", "one", "other"] (defScope s_Hall_chain) := ⟨rfl, rfl, rfl, by decide +kernel, rfl, by decide +kernel, by decide +kernel⟩
abbrev s_number_in : Stmt := topS 30
theorem sc_number_in : FnScope ["word", "sign"] ["word"] (defScope s_number_in) := ⟨rfl, rfl, rfl, by decide +kernel, rfl, by decide +kernel, by decide +kernel⟩
abbrev s_deed_of : Stmt := topS 31
theorem sc_deed_of : FnScope ["line", "words", "word"] ["line"] (defScope s_deed_of) := ⟨rfl, rfl, rfl, by decide +kernel, rfl, by decide +kernel, by decide +kernel⟩
abbrev s_text_of : Stmt := topS 32
theorem sc_text_of : FnScope ["told", "numbers", "number"] ["told"] (defScope s_text_of) := ⟨rfl, rfl, rfl, by decide +kernel, rfl, by decide +kernel, by decide +kernel⟩
abbrev s_word_of : Stmt := topS 33
theorem sc_word_of : FnScope ["error"] ["error"] (defScope s_word_of) := ⟨rfl, rfl, rfl, by decide +kernel, rfl, by decide +kernel, by decide +kernel⟩
abbrev s_done : Stmt := topS 34
theorem sc_done : FnScope ["hall", "line", "deed", "error", "told"] ["hall", "line"] (defScope s_done) := ⟨rfl, rfl, rfl, by decide +kernel, rfl, by decide +kernel, by decide +kernel⟩
abbrev s_play : Stmt := topS 35
theorem sc_play : FnScope ["lefts", "rights", "lines", "hall", "line"] ["lefts", "rights", "lines"] (defScope s_play) := ⟨rfl, rfl, rfl, by decide +kernel, rfl, by decide +kernel, by decide +kernel⟩
abbrev s_law_cell_at : Stmt := topS 37
theorem sc_law_cell_at : FnScope ["_law_script", "_law_k"] ["_law_script", "_law_k"] (defScope s_law_cell_at) := ⟨rfl, rfl, rfl, by decide +kernel, rfl, by decide +kernel, by decide +kernel⟩
abbrev s_law_mixed : Stmt := topS 38
theorem sc_law_mixed : FnScope ["_law_cell", "_law_k"] ["_law_cell", "_law_k"] (defScope s_law_mixed) := ⟨rfl, rfl, rfl, by decide +kernel, rfl, by decide +kernel, by decide +kernel⟩
abbrev s_law_whole : Stmt := topS 39
theorem sc_law_whole : FnScope ["_law_found"] ["_law_found"] (defScope s_law_whole) := ⟨rfl, rfl, rfl, by decide +kernel, rfl, by decide +kernel, by decide +kernel⟩
abbrev s_law_sizes_by : Stmt := topS 40
theorem sc_law_sizes_by : FnScope ["_law_cell", "_law_some"] ["_law_cell"] (defScope s_law_sizes_by) := ⟨rfl, rfl, rfl, by decide +kernel, rfl, by decide +kernel, by decide +kernel⟩
abbrev s_law_ends : Stmt := topS 41
theorem sc_law_ends : FnScope ["_law_cell", "_law_sizes", "_law_rows", "_law_found", "_law_side", "_law_taken", "_law_every", "_law_some", "_law_row", "_law_end"] ["_law_cell", "_law_sizes", "_law_rows"] (defScope s_law_ends) := ⟨rfl, rfl, rfl, by decide +kernel, rfl, by decide +kernel, by decide +kernel⟩
abbrev s_law_deed : Stmt := topS 42
theorem sc_law_deed : FnScope ["_law_cell", "_law_sizes", "_law_rows", "_law_most"] ["_law_cell", "_law_sizes", "_law_rows", "_law_most"] (defScope s_law_deed) := ⟨rfl, rfl, rfl, by decide +kernel, rfl, by decide +kernel, by decide +kernel⟩
abbrev s_law_text : Stmt := topS 43
theorem sc_law_text : FnScope ["_law_told", "_law_number", "_law_hue", "_law_other", "_law_numbers", "_law_found", "_law_one"] ["_law_told"] (defScope s_law_text) := ⟨rfl, rfl, rfl, by decide +kernel, rfl, by decide +kernel, by decide +kernel⟩
abbrev s_law_answer : Stmt := topS 44
theorem sc_law_answer : FnScope ["_law_hall", "_law_deed_here", "error", "_law_words", "_law_told"] ["_law_hall", "_law_deed_here"] (defScope s_law_answer) := ⟨rfl, rfl, rfl, by decide +kernel, rfl, by decide +kernel, by decide +kernel⟩
abbrev s_law_drawn : Stmt := topS 45
theorem sc_law_drawn : FnScope ["_law_cell", "_law_sizes", "_law_ends_here", "_law_came", "_law_deed_here"] ["_law_cell", "_law_sizes", "_law_ends_here", "_law_came"] (defScope s_law_drawn) := ⟨rfl, rfl, rfl, by decide +kernel, rfl, by decide +kernel, by decide +kernel⟩
abbrev s_law : Stmt := topS 46
theorem sc_law : FnScope ["_law_script", "_law_first", "_law_sizes", "_law_hall", "_law_ends_here", "_law_lines", "_law_due", "_law_deeds", "_law_k", "_law_mixed_here", "_law_deed_here", "_law_before", "_law_answer_here", "_law_handed", "_law_told", "_law_turn", "_law_found", "_law_one", "_law_row", "_law_part", "_law_text_here"] ["_law_script"] (defScope s_law) := ⟨rfl, rfl, rfl, by decide +kernel, rfl, by decide +kernel, by decide +kernel⟩
end Ph
end

section
set_option maxRecDepth 100000
set_option maxHeartbeats 4000000
set_option pp.maxSteps 600
open PySem L2 D4
local macro_rules | `(tactic| walk_at "op") => `(tactic| first
  | exact o_add | exact o_sub | exact o_mul (Or.inr ⟨by decide, by decide⟩) | exact o_mul (Or.inl ⟨by decide, by decide⟩) | exact o_div ⟨by decide, by decide⟩ | exact o_mod (by decide) | exact o_lt | exact o_le | exact o_gt | exact o_ge
  | exact o_eqI | exact o_neI | exact o_eqS | exact o_neS | exact o_eqB | exact o_neB | exact o_isN | exact o_notN)
local macro_rules | `(tactic| walk_at "la") => `(tactic| first | exact LA.l | exact LA.c (by assumption) | exact LA.c um_same | exact LA.c (by walk_at "m"))
local macro_rules | `(tactic| walk_at "ix") => `(tactic| first | exact x_tup rfl | exact x_tup (by assumption) | exact x_scr (by assumption) | exact x_la (by walk_at "la") (by assumption) | exact x_la (by walk_at "la") rfl)
local macro_rules | `(tactic| walk_at "m") => `(tactic| first | assumption | exact um_same | exact um_old (by assumption) (by assumption))
local macro_rules | `(tactic| walk_at "w") => `(tactic| first | assumption | exact Nw.wr (by assumption) | exact Or.inl (by assumption))
local macro_rules | `(tactic| walk_at "dk") => `(tactic| first | exact Or.inl (by walk_at "m") | exact Or.inr ⟨_, _, by walk_at "m"⟩)
local macro_rules | `(tactic| walk_at "key") => `(tactic| first | exact IsKey.i (by walk_at "dk") | exact IsKey.t (by walk_at "m"))
local macro_rules | `(tactic| walk_at "ty") => `(tactic| first | exact TyD.int | exact TyD.bl | exact TyD.str | exact TyD.lst | exact TyD.tup | exact TyD.non | exact TyD.cl (by walk_at "m") | exact TyD.cd (by walk_at "m"))
local macro_rules | `(tactic| walk_at "call") => `(tactic| first
  | exact c_lenA (by walk_at "la") | exact c_len_scr | exact c_len_tup | exact c_len_dk (by walk_at "dk") | exact c_isi (c := true) (by walk_at "ty") | exact c_isi (c := false) (by walk_at "ty")
  | exact c_int_bl | exact c_all rfl | exact c_list_lst | exact c_tuple_lst | exact c_max2 rfl | exact c_min2 rfl)

namespace Ph
open PySem L2 D4 K8
section
variable {P : Program} {w : World} {K : Fg} {mg : Str → Option Value} {base : Heap}
/-! chains -/
def S_index_of : FSp := fun _ fr M ds Φ _ => ∃ (a : Addr) (rs : Rows), ds = [.loc (.ref a)] ∧ M a = some (.dI (encR rs)) ∧ (keys rs).Nodup ∧ rs.length ≤ 1000 ∧ ∀ p, fr p → M p = none → Φ (um M p (.dT (indexD rs))) (.loc (.ref p))
theorem index_snoc (rs : Rows) {i : Nat} {x : Int × Row} (h : rs[i]? = some x) : indexD (rs.take (i + 1)) = putD (putD (indexD (rs.take i)) [0, x.2.1, x.2.2.2] (.int x.1)) [1, x.2.2.1, x.2.2.2] (.int x.1) := by
  unfold indexD
  rw [take_snoc h, List.foldl_append, List.foldl_cons, List.foldl_nil]
theorem encR_get {rs : Rows} {i : Nat} {kv : Int × D} (h : (encR rs)[i]? = some kv) : ∃ x, rs[i]? = some x ∧ kv = (x.1, .tup (enc3 x.2)) := by
  unfold encR at h
  rw [List.getElem?_map] at h
  cases q : rs[i]? with
  | none => rw [q] at h; cases h
  | some x => rw [q] at h; cases h; exact ⟨x, rfl, rfl⟩
theorem ok_index_of (F : FdOk K mg "index_of" ["rows"] s_index_of) : OkF P w K mg base "index_of" ["rows"] 1 S_index_of := by
  refine fnO F sc_index_of (fun own fr M ds Φ Ψ h => ?_) (fun f cdv A outer s H E hr b M ds Φ Ψ fr hfr h => ?_)
  · obtain ⟨a, rs, rfl, _⟩ := h
    rfl
  · obtain ⟨a, rs, rfl, hm, hn, hl, hΦ⟩ := h
    have ND := sc_index_of.nd
    have hu := hu_of hr
    refine sws_cons (sw_set 1 (ew_dictT fun p hp1 hp2 => ?_) ND)
    have hpa : a ≠ p := ne_m hm hp1
    refine sws_cons (sw_forItems (a := a) (kvs := encR rs) (fun i M' δ' => M' p = some (.dT (indexD (rs.take i))) ∧ SubX [a, p] M M' ∧ ∃ o2 o3, δ' = [some (.loc (.ref a)), some (.loc (.ref p)), o2, o3]) (passes_of rfl) rfl (by rw [um_ne hpa]; exact hm) (fun _ _ => ev_var 0 rfl)
      (fun z => ⟨by rw [um_ne (Ne.symm hpa), um_same]; rfl, (SubX.wr (by simp)).trans (SubX.wr (by simp)), _, _, rfl⟩) ?_ ?_)
    · rintro b' z hW ⟨od, ws, rfl⟩ i kv M' δ' hi hz ⟨hmp, hsub, o2, o3, rfl⟩
      obtain ⟨x, hx, rfl⟩ := encR_get hi
      refine gw_tup rfl (gws_cons (gw_name 2 (gws_cons (gw_name 3 (gws_nil ?_) ND)) ND))
      have hlen : (indexD (rs.take i)).length ≤ 2000 := by
        have h1 := index_len (rs.take i)
        rw [List.length_take] at h1
        omega
      have hlen2 := putD_len (indexD (rs.take i)) [0, x.2.1, x.2.2.2] (.int x.1)
      have hw' : Wr b' p := (hW p).mpr (.inl hp2)
      refine sws_cons (sw_dputT (ks := [0, x.2.1, x.2.2.2]) hu (ev_var 2 rfl) (ev_var 1 rfl) (ev_tup (evs_cons ev_int (evs_cons (ev_ix (ev_var 3 rfl) ev_int (by walk_at "ix")) (evs_cons (ev_ix (ev_var 3 rfl) ev_int (by walk_at "ix")) evs_nil)))) hmp hw' (by omega) ?_)
      refine sws_cons (sw_dputT (ks := [1, x.2.2.1, x.2.2.2]) hu (ev_var 2 rfl) (ev_var 1 rfl) (ev_tup (evs_cons ev_int (evs_cons (ev_ix (ev_var 3 rfl) ev_int (by walk_at "ix")) (evs_cons (ev_ix (ev_var 3 rfl) ev_int (by walk_at "ix")) evs_nil)))) um_same hw' (Nat.lt_of_le_of_lt hlen2 (by omega)) ?_)
      refine sws_nil ⟨?_, ?_, ?_, _, _, rfl⟩
      · rw [um_um, um_ne hpa]; exact hz
      · rw [um_same, index_snoc rs hx]
      · rw [um_um]; exact hsub.trans (SubX.wr (by simp))
    · rintro M' δ' z hz ⟨hmp, hsub, o2, o3, rfl⟩
      refine sws_cons (sw_ret (EW.less (EW.to (ev_var 1 rfl) ⟨_, ?_, hΦ p ((hfr p).mpr hp2) hp1⟩)))
      rw [encR_len, List.take_length] at hmp
      intro x c e
      by_cases e1 : x = p
      · subst e1; rw [um_same] at e; cases e; rw [um_ne (Ne.symm hpa)]; exact hmp
      · rw [um_ne e1] at e
        by_cases e2 : x = a
        · subst e2; rw [hm] at e; cases e; exact um_same
        · rw [um_ne e2]; exact hsub x c (by simp [e1, e2]) e
def P_free_at : Mp → List D → List D → Prop := fun M ds xs => ∃ (a : Addr) (rs : Rows) (s : Nat) (e : Int) (many : Nat), ds = [.loc (.ref a), .int (s : Nat), .int e, .int (many : Nat)] ∧ M a = some (.dI (encR rs)) ∧ (keys rs).Nodup ∧ rs.length ≤ 1000 ∧ s < 2 ∧ many ≤ 1000 ∧ xs = (free rs s e many).map D.int
def S_free_at : FSp := FreshS P_free_at
theorem ok_free_at (F : FdOk K mg "free_at" ["rows", "side", "end", "many"] s_free_at) (G_index_of : OkF P w K mg base "index_of" ["rows"] 1 S_index_of) (n_range : mg "range" = none) : OkF P w K mg base "free_at" ["rows", "side", "end", "many"] 2 S_free_at := by
  refine fnO F sc_free_at (fun own fr M ds Φ Ψ h => ?_) (fun f cdv A outer s H E hr b M ds Φ Ψ fr hfr h => ?_)
  · obtain ⟨xs, ⟨a, rs, s, e, many, rfl, _⟩, _⟩ := h
    rfl
  · obtain ⟨xs, ⟨a, rs, s', e, many, rfl, hm, hn, hl, hs, hmany, rfl⟩, hΦ⟩ := h
    have ND := sc_free_at.nd
    have hu := hu_of hr
    refine sws_cons (sw_set 4 (ew_callO G_index_of hr rfl (EWs.to (evs_cons (ev_var 0 rfl) evs_nil) (CallS.of fun fr' hf => ⟨a, rs, rfl, hm, hn, hl, fun p hp hp1 => ?_⟩))) ND)
    have hp2 := (hf p hp).2
    refine sws_cons (sw_ret (EW.less (ew_lcN (xs := List.range many) (enc := fun i => .int (i : Nat)) (t := fun h : Nat => (idx rs s' e (h : Int)).isNone) (f := fun i => .int (i : Nat)) (js := [5]) (g := fun i => [.int (i : Nat)]) (own := [("hue", 5)]) rfl ND (blkOk_by (by dsimp only [L2.cxOf, PyProof.Rows.envOfC]; decide +kernel)) ?_)))
    refine lcp_rng (n := (many : Nat)) rfl n_range (ev_var 3 rfl) (by omega) (by omega) (fun i hi _ _ _ _ _ => gs_name 5 ND) (fun i hi M2 hM => turn1 (fun _ _ _ _ _ => TV.cast (tv_dnotin (od := (idx rs s' e (i : Int)).map D.int) (by exact hu) (ev_tup (evs_cons (ev_var 1 rfl) (evs_cons (ev_var 2 rfl) (evs_cons (ev_var 5 rfl) evs_nil)))) (ev_var 4 rfl) ?_) ?_) fun _ _ _ _ _ _ => (ev_var 5 rfl)) ?_
    · rw [← index_look rs s' hs]
      exact IsKey.t (ks := [(s' : Int), e, (i : Int)]) (hM _ _ um_same)
    · cases idx rs s' e (i : Int) <;> rfl
    · intro q hq hq2
      have hqp : q ≠ p := fun z => by rw [z, um_same] at hq; cases hq
      have hqM : M q = none := by rw [um_ne hqp] at hq; exact hq
      refine ⟨_, ?_, hΦ q ((hfr q).mpr hq2) hqM⟩
      have e1 : ((List.range ((many : Nat) : Int).toNat).filter fun h : Nat => (idx rs s' e (h : Int)).isNone).map (fun i : Nat => D.int (i : Nat)) = (free rs s' e many).map D.int := by
        rw [Int.toNat_natCast]; unfold free; rw [List.map_map]; rfl
      rw [e1]
      intro x c ex
      by_cases h1 : x = q
      · subst h1; rw [um_same] at ex ⊢; exact ex
      · rw [um_ne h1] at ex ⊢; exact um_old ex hp1
end
end Ph
end

section

namespace Ph
open PySem L2 D4 K8
theorem key_ix {x : Row} {s : Nat} (hs : s < 2) : atI (enc3 x) (s : Int) = some (.int (endOf s x)) := by
  rcases (show s = 0 ∨ s = 1 by omega) with rfl | rfl <;> rfl
end Ph
end

section
set_option maxRecDepth 100000
set_option maxHeartbeats 4000000
set_option pp.maxSteps 600
open PySem L2 D4
local macro_rules | `(tactic| walk_at "op") => `(tactic| first
  | exact o_add | exact o_sub | exact o_mul (Or.inr ⟨by decide, by decide⟩) | exact o_mul (Or.inl ⟨by decide, by decide⟩) | exact o_div ⟨by decide, by decide⟩ | exact o_mod (by decide) | exact o_lt | exact o_le | exact o_gt | exact o_ge
  | exact o_eqI | exact o_neI | exact o_eqS | exact o_neS | exact o_eqB | exact o_neB | exact o_isN | exact o_notN)
local macro_rules | `(tactic| walk_at "la") => `(tactic| first | exact LA.l | exact LA.c (by assumption) | exact LA.c um_same | exact LA.c (by walk_at "m"))
local macro_rules | `(tactic| walk_at "ix") => `(tactic| first | exact x_tup rfl | exact x_tup (by assumption) | exact x_scr (by assumption) | exact x_la (by walk_at "la") (by assumption) | exact x_la (by walk_at "la") rfl)
local macro_rules | `(tactic| walk_at "m") => `(tactic| first | assumption | exact um_same | exact um_old (by assumption) (by assumption))
local macro_rules | `(tactic| walk_at "w") => `(tactic| first | assumption | exact Nw.wr (by assumption) | exact Or.inl (by assumption))
local macro_rules | `(tactic| walk_at "dk") => `(tactic| first | exact Or.inl (by walk_at "m") | exact Or.inr ⟨_, _, by walk_at "m"⟩)
local macro_rules | `(tactic| walk_at "key") => `(tactic| first | exact IsKey.i (by walk_at "dk") | exact IsKey.t (by walk_at "m"))
local macro_rules | `(tactic| walk_at "ty") => `(tactic| first | exact TyD.int | exact TyD.bl | exact TyD.str | exact TyD.lst | exact TyD.tup | exact TyD.non | exact TyD.cl (by walk_at "m") | exact TyD.cd (by walk_at "m"))
local macro_rules | `(tactic| walk_at "call") => `(tactic| first
  | exact c_lenA (by walk_at "la") | exact c_len_scr | exact c_len_tup | exact c_len_dk (by walk_at "dk") | exact c_isi (c := true) (by walk_at "ty") | exact c_isi (c := false) (by walk_at "ty")
  | exact c_int_bl | exact c_all rfl | exact c_list_lst | exact c_tuple_lst | exact c_max2 rfl | exact c_min2 rfl)

namespace Ph
open PySem L2 D4 K8
section
variable {P : Program} {w : World} {K : Fg} {mg : Str → Option Value} {base : Heap}
/-! chain_from, turned -/
def wAt (w o : Int) (k : Nat) : Int := if k % 2 = 0 then w else o
theorem wAt_two (w o : Int) (k : Nat) : wAt w o (k + 2) = wAt w o k := by unfold wAt; rw [Nat.add_mod_right]
def P_chain_from : Mp → List D → List D → Prop := fun M ds xs => ∃ (a : Addr) (rs : Rows) (s : Nat) (e one other : Int) (ns : List Int), ds = [.loc (.ref a), .int (s : Nat), .int e, .int one, .int other] ∧ M a = some (.dI (encR rs)) ∧ rs.length ≤ 1000 ∧ (keys rs).Nodup ∧ s < 2 ∧ Ch rs s e other one ns ∧ ns.length ≤ 5000 ∧ xs = ns.map D.int
def S_chain_from : FSp := FreshS P_chain_from
theorem ok_chain_from (F : FdOk K mg "chain_from" ["rows", "side", "end", "one", "other"] s_chain_from) (G_index_of : OkF P w K mg base "index_of" ["rows"] 1 S_index_of) (n_len : mg "len" = none) : OkF P w K mg base "chain_from" ["rows", "side", "end", "one", "other"] 2 S_chain_from := by
  refine fnO F sc_chain_from (fun own fr M ds Φ Ψ h => ?_) (fun f cdv A outer s H E hr b M ds Φ Ψ fr hfr h => ?_)
  · obtain ⟨xs, ⟨a, rs, s, e, one, other, ns, rfl, _⟩, _⟩ := h
    rfl
  · obtain ⟨xs, ⟨a, rs, s0, e0, one, other, ns, rfl, hm, hl, hn, hs0, hch, hnl, rfl⟩, hΦ⟩ := h
    have ND := sc_chain_from.nd
    have hu := hu_of hr
    refine sws_cons (sw_set 5 (ew_callO G_index_of hr rfl (EWs.to (evs_cons (ev_var 0 rfl) evs_nil) (CallS.of fun fr' hf => ⟨a, rs, rfl, hm, hn, hl, fun p hp hp1 => ?_⟩))) ND)
    refine sws_cons (sw_set 6 (ew_lstN (EWs.to evs_nil ⟨by decide, fun q hq1 hq2 => ?_⟩)) ND)
    have hqp : q ≠ p := fun z => by rw [z, um_same] at hq1; cases hq1
    have hqM : M q = none := by rw [um_ne hqp] at hq1; exact hq1
    have hap : a ≠ p := ne_m hm hp1
    have haq : a ≠ q := ne_m hm hqM
    refine sws_cons (sw_set 7 (EW.to (ev_lst (evs_cons (ev_var 4 rfl) (evs_cons (ev_var 3 rfl) evs_nil))) ?_) ND)
    have hpM : um (um M p (.dT (indexD rs))) q (.lst []) p = some (.dT (indexD rs)) := by rw [um_ne (Ne.symm hqp), um_same]
    have haM : um (um M p (.dT (indexD rs))) q (.lst []) a = some (.dI (encR rs)) := by rw [um_ne haq, um_ne hap]; exact hm
    have hk0 : IsKey (um (um M p (.dT (indexD rs))) q (.lst [])) p (.tup [.int (s0 : Nat), .int e0, .int other]) ((idx rs s0 e0 other).map D.int) := by
      rw [← index_look rs s0 hs0]
      exact IsKey.t (ks := [(s0 : Int), e0, other]) hpM
    refine sws_cons (sw_set 8 (EW.to (ev_dget1 hu (ev_var 5 rfl) (ev_tup (evs_cons (ev_var 1 rfl) (evs_cons (ev_var 2 rfl) (evs_cons (ev_var 4 rfl) evs_nil)))) hk0) ?_) ND)
    refine sws_cons (sw_while (passes_of rfl) (fun m M' δ' => ∃ (pre rest : List Int) (s : Nat) (e : Int), ns = pre ++ rest ∧ m = rest.length ∧ s < 2 ∧ Ch rs s e (wAt other one pre.length) (wAt other one (pre.length + 1)) rest ∧ M' p = some (.dT (indexD rs)) ∧ M' a = some (.dI (encR rs)) ∧ M' q = some (.lst (pre.map D.int)) ∧ SubX [q, p] M M' ∧
      δ' = [some (.loc (.ref a)), some (.int (s : Nat)), some (.int e), some (.int one), some (.int other), some (.loc (.ref p)), some (.loc (.ref q)), some (.lst [.int other, .int one]), some (((idx rs s e (wAt other one pre.length)).map D.int).getD .non)]) ns.length
      ⟨[], ns, s0, e0, rfl, rfl, hs0, hch, hpM, haM, by rw [um_same]; rfl, (SubX.new hp1).trans (SubX.wr (by simp)), rfl⟩ ?_)
    · rintro m M' δ' ⟨pre, rest, s', e, ens, rfl, hs', hc, hMp, hMa, hMq, hsub, rfl⟩
      refine TW.to (tv_cmp (ev_var 8 rfl) ev_non o_notN) ⟨fun hb => ?_, fun hb => ?_⟩
      · cases hc with
        | stop q => rw [q] at hb; cases hb
        | @step _ _ _ _ n rest' hi ht =>
          rw [hi]
          obtain ⟨r, hr1, hr2, hr3⟩ := idx_some hi
          have hrow : rowOf rs n = r := rowOf_of hn hr1
          rw [hrow] at ht
          have hpl : pre.length ≤ 5000 := by rw [ens, List.length_append] at hnl; omega
          refine sws_cons (sw_expr (ew_append (ev_var 6 rfl) hMq (.inl hq2) (by rw [List.length_map]; omega) (EW.to (ev_var 8 rfl) ⟨hMq, ?_⟩)))
          have hMa' : um M' q (.lst (pre.map D.int ++ [.int n])) a = some (.dI (encR rs)) := by rw [um_ne haq]; exact hMa
          have hMp' : um M' q (.lst (pre.map D.int ++ [.int n])) p = some (.dT (indexD rs)) := by rw [um_ne (Ne.symm hqp)]; exact hMp
          refine sws_cons (sw_set 1 (EW.to (d := .int ((1 - s' : Nat) : Int)) (EV.cast (ev_bin ev_int (ev_var 1 rfl) (by walk_at "op")) (congrArg D.int (by omega))) ?_) ND)
          have hgr : IsKey (um M' q (.lst (pre.map D.int ++ [.int n]))) a (.int n) (some (.tup (enc3 r))) := by
            have := IsKey.i (i := n) (DkI.sub (M := um M' q (.lst (pre.map D.int ++ [.int n]))) (.inl hMa') Sub.refl)
            rw [lookD_encR, look_of hn hr1] at this
            exact this
          refine sws_cons (sw_set 2 (EW.to (ev_ix (ev_dget hu (ev_var 0 rfl) (ev_var 8 rfl) hgr) (ev_var 1 rfl) (x_tup (key_ix (x := r) (by omega : 1 - s' < 2)))) ?_) ND)
          have hat : atI [D.int other, D.int one] ((((pre.map D.int ++ [D.int n]).length : Nat) : Int) % 2) = some (.int (wAt other one (pre.length + 1))) := by
            rw [List.length_append, List.length_map]
            show atI _ (((pre.length + 1 : Nat) : Int) % 2) = _
            unfold wAt
            rcases (show (pre.length + 1) % 2 = 0 ∨ (pre.length + 1) % 2 = 1 by omega) with h | h
            · rw [show ((pre.length + 1 : Nat) : Int) % 2 = 0 by omega, if_pos h]; rfl
            · rw [show ((pre.length + 1 : Nat) : Int) % 2 = 1 by omega, if_neg (by omega)]; rfl
          have hk : IsKey (um M' q (.lst (pre.map D.int ++ [.int n]))) p (.tup [.int ((1 - s' : Nat) : Int), .int (endOf (1 - s') r), .int (wAt other one (pre.length + 1))]) ((idx rs (1 - s') (endOf (1 - s') r) (wAt other one (pre.length + 1))).map D.int) := by
            rw [← index_look rs (1 - s') (by omega)]
            exact IsKey.t (ks := [((1 - s' : Nat) : Int), endOf (1 - s') r, wAt other one (pre.length + 1)]) hMp'
          refine sws_cons (sw_set 8 (EW.to (ev_dget1 hu (ev_var 5 rfl) (ev_tup (evs_cons (ev_var 1 rfl) (evs_cons (ev_var 2 rfl) (evs_cons (ev_ix (ev_var 7 rfl) (ev_bin (ev_cb rfl n_len b_len (evs_cons (ev_var 6 rfl) evs_nil) (c_lenA (.c um_same))) ev_int (by walk_at "op")) (x_lst hat)) evs_nil)))) hk) ?_) ND)
          refine sws_nil ⟨rest'.length, by rw [List.length_cons]; omega, pre ++ [n], rest', 1 - s', endOf (1 - s') r, by rw [ens, List.append_assoc]; rfl, rfl, by omega, ?_, hMp', hMa', ?_, hsub.trans (SubX.wr (by simp)), ?_⟩
          · rw [List.length_append]
            show Ch rs _ _ (wAt other one (pre.length + 1)) (wAt other one (pre.length + 2)) rest'
            rw [wAt_two]
            exact ht
          · rw [um_same, List.map_append]; rfl
          · rw [List.length_append]; rfl
      · have hrest : rest = [] := by
          cases hc with
          | stop q => rfl
          | step hi ht => rw [hi] at hb; cases hb
        subst hrest
        rw [List.append_nil] at ens
        subst ens
        refine sws_cons (sw_ret (EW.less (EW.to (ev_var 6 rfl) ⟨_, ?_, hΦ q ((hfr q).mpr hq2) hqM⟩)))
        intro x c ex
        by_cases h1 : x = q
        · subst h1; rw [um_same] at ex; cases ex; exact hMq
        · rw [um_ne h1] at ex
          have h2 : x ≠ p := fun z => by rw [z, hp1] at ex; cases ex
          exact hsub x c (by simp [h1, h2]) ex
def S_turned : FSp := fun _ fr M ds Φ _ => ∃ (a : Addr) (d : D) (rs : Rows) (ns : List Int) (one other : Int), ds = [.loc (.ref a), .lst (ns.map D.int), .int one, .int other] ∧ M a = some (.dI (encR rs)) ∧ rs.length ≤ 1000 ∧ (keys rs).Nodup ∧ ns.length ≤ 5000 ∧ (∀ n ∈ ns, n ∈ keys rs) ∧ ∀ q, fr q → M q = none → Φ (um M q (.dI (encR (turn rs ns one other)))) (.loc (.ref q))
theorem ok_turned (F : FdOk K mg "turned" ["rows", "numbers", "one", "other"] s_turned) (n_dict : mg "dict" = none) : OkF P w K mg base "turned" ["rows", "numbers", "one", "other"] 1 S_turned := by
  refine fnO F sc_turned (fun own fr M ds Φ Ψ h => ?_) (fun f cdv A outer s H E hr b M ds Φ Ψ fr hfr h => ?_)
  · obtain ⟨a, _, rs, ns, one, other, rfl, _⟩ := h
    rfl
  · obtain ⟨a, _, rs, ns, one, other, rfl, hm, hl, hn, hnl, hmem, hΦ⟩ := h
    have ND := sc_turned.nd
    have hu := hu_of hr
    refine sws_cons (sw_set 4 (ew_ct rfl n_dict b_dict (EWs.to (evs_cons (ev_var 0 rfl) evs_nil) (c_dict (.inl hm) fun q hq1 hq2 => ?_))) ND)
    have haq : a ≠ q := ne_m hm hq1
    refine sws_cons (sw_forL (fun i M' δ' => M' = um M q (.dI (encR (turn rs (ns.take i) one other))) ∧ ∃ o5 o6 o7 o8, δ' = [some (.loc (.ref a)), some (.lst (ns.map D.int)), some (.int one), some (.int other), some (.loc (.ref q)), o5, o6, o7, o8]) (passes_of rfl) rfl (ev_var 1 rfl) .l ⟨by rw [List.take_zero, turn_nil], _, _, _, _, rfl⟩ (fun _ _ _ _ => .l) ?_ ?_)
    · rintro i d M' δ' hi ⟨rfl, o5, o6, o7, o8, rfl⟩
      rw [List.getElem?_map] at hi
      cases hni : ns[i]? with
      | none => rw [hni] at hi; cases hi
      | some n =>
        rw [hni] at hi; cases hi
        obtain ⟨x, hx, ex⟩ := List.mem_map.mp (hmem n (List.mem_of_getElem? hni))
        obtain ⟨xn, r⟩ := x
        simp only at ex
        subst ex
        have hlook := look_of hn hx
        refine gw_name 5 ?_ ND
        have hgr : IsKey (um M q (.dI (encR (turn rs (ns.take i) one other)))) a (.int xn) (some (.tup (enc3 r))) := by
          have := IsKey.i (i := xn) (DkI.sub (M := um M q (.dI (encR (turn rs (ns.take i) one other)))) (.inl (by rw [um_ne haq]; exact hm)) Sub.refl)
          rw [lookD_encR, hlook] at this
          exact this
        refine sws_cons (sw_asg (EW.to (ev_dget hu (ev_var 0 rfl) (ev_var 5 rfl) hgr) (gw_tup rfl (gws_cons (gw_name 6 (gws_cons (gw_name 7 (gws_cons (gw_name 8 (gws_nil ?_) ND)) ND)) ND)))))
        refine sws_cons (sw_dput (d := .tup (enc3 (flip one other r))) hu (ev_tup (evs_cons (ev_var 6 rfl) (evs_cons (ev_var 7 rfl) (evs_cons (EV.cast (ev_if (d := .int (if hueOf r = other then one else other)) (tv_cmp (ev_var 8 rfl) (ev_var 3 rfl) (by walk_at "op")) (fun hc => EV.cast (ev_var 2 rfl) ?_) (fun hc => EV.cast (ev_var 3 rfl) ?_)) rfl) evs_nil)))) (ev_var 4 rfl) (ev_var 5 rfl) um_same (.inl hq2) (by rw [encR_len, turn_len]; omega) ?_)
        · rw [if_pos (by simpa using hc)]
        · rw [if_neg (by simpa using hc)]
        · refine sws_nil ⟨?_, _, _, _, _, rfl⟩
          rw [um_um, putD_encR, turn_put hn hlook, take_snoc hni]
    · rintro M' δ' ⟨rfl, o5, o6, o7, o8, rfl⟩
      rw [List.length_map, List.take_length]
      exact sws_cons (sw_ret (EW.to (ev_var 4 rfl) (hΦ q ((hfr q).mpr hq2) hq1)))
end
end Ph
end

section
set_option maxRecDepth 100000
set_option maxHeartbeats 4000000
set_option pp.maxSteps 600
open PySem L2 D4
local macro_rules | `(tactic| walk_at "op") => `(tactic| first
  | exact o_add | exact o_sub | exact o_mul (Or.inr ⟨by decide, by decide⟩) | exact o_mul (Or.inl ⟨by decide, by decide⟩) | exact o_div ⟨by decide, by decide⟩ | exact o_mod (by decide) | exact o_lt | exact o_le | exact o_gt | exact o_ge
  | exact o_eqI | exact o_neI | exact o_eqS | exact o_neS | exact o_eqB | exact o_neB | exact o_isN | exact o_notN)
local macro_rules | `(tactic| walk_at "la") => `(tactic| first | exact LA.l | exact LA.c (by assumption) | exact LA.c um_same | exact LA.c (by walk_at "m"))
local macro_rules | `(tactic| walk_at "ix") => `(tactic| first | exact x_tup rfl | exact x_tup (by assumption) | exact x_scr (by assumption) | exact x_la (by walk_at "la") (by assumption) | exact x_la (by walk_at "la") rfl)
local macro_rules | `(tactic| walk_at "m") => `(tactic| first | assumption | exact um_same | exact um_old (by assumption) (by assumption))
local macro_rules | `(tactic| walk_at "w") => `(tactic| first | assumption | exact Nw.wr (by assumption) | exact Or.inl (by assumption))
local macro_rules | `(tactic| walk_at "dk") => `(tactic| first | exact Or.inl (by walk_at "m") | exact Or.inr ⟨_, _, by walk_at "m"⟩)
local macro_rules | `(tactic| walk_at "key") => `(tactic| first | exact IsKey.i (by walk_at "dk") | exact IsKey.t (by walk_at "m"))
local macro_rules | `(tactic| walk_at "ty") => `(tactic| first | exact TyD.int | exact TyD.bl | exact TyD.str | exact TyD.lst | exact TyD.tup | exact TyD.non | exact TyD.cl (by walk_at "m") | exact TyD.cd (by walk_at "m"))
local macro_rules | `(tactic| walk_at "call") => `(tactic| first
  | exact c_lenA (by walk_at "la") | exact c_len_scr | exact c_len_tup | exact c_len_dk (by walk_at "dk") | exact c_isi (c := true) (by walk_at "ty") | exact c_isi (c := false) (by walk_at "ty")
  | exact c_int_bl | exact c_all rfl | exact c_list_lst | exact c_tuple_lst | exact c_max2 rfl | exact c_min2 rfl)

namespace Ph
open PySem L2 D4 K8
section
variable {P : Program} {w : World} {K : Fg} {mg : Str → Option Value} {base : Heap}
/-! ways, hue_given -/
def P_ways : Mp → List D → List D → Prop := fun M ds xs => ∃ (a : Addr) (rs : Rows) (l r : Int) (many : Nat), ds = [.loc (.ref a), .tup [.int l, .int r], .int (many : Nat)] ∧ M a = some (.dI (encR rs)) ∧ rs.length ≤ 100 ∧ (keys rs).Nodup ∧ Proper rs ∧ many ≤ 100 ∧ xs = (ways rs l r many).map encW
def S_ways : FSp := FreshS P_ways
theorem ends_at (l r : Int) {s : Nat} (hs : s < 2) : atI [D.int l, D.int r] (s : Int) = some (.int (pick s l r)) := by
  rcases (show s = 0 ∨ s = 1 by omega) with rfl | rfl <;> rfl
theorem ok_ways (F : FdOk K mg "ways" ["rows", "ends", "many"] s_ways) (G_free_at : OkF P w K mg base "free_at" ["rows", "side", "end", "many"] 2 S_free_at) (G_chain_from : OkF P w K mg base "chain_from" ["rows", "side", "end", "one", "other"] 2 S_chain_from) (n_range : mg "range" = none) (n_len : mg "len" = none) : OkF P w K mg base "ways" ["rows", "ends", "many"] 3 S_ways := by
  refine fnO F sc_ways (fun own fr M ds Φ Ψ h => ?_) (fun f cdv A outer s H E hr b M ds Φ Ψ fr hfr h => ?_)
  · obtain ⟨xs, ⟨a, rs, l, r, many, rfl, _⟩, _⟩ := h
    rfl
  · obtain ⟨xs, ⟨a, rs, l, r, many, rfl, hm, hl, hn, hP, hmany, rfl⟩, hΦ⟩ := h
    have ND := sc_ways.nd
    refine sws_cons (sw_set 3 (ew_lstN (EWs.to evs_nil ⟨by decide, fun q hq1 hq2 => ?_⟩)) ND)
    have haq : a ≠ q := ne_m hm hq1
    have hma : ∀ xs, um M q (.lst xs) a = some (.dI (encR rs)) := fun xs => by rw [um_ne haq]; exact hm
    refine sws_cons (sw_forR (fun i M' δ' => M' = um M q (.lst (((List.range i).flatMap (waysS rs l r many)).map encW)) ∧ ∃ o4 o5 o6 o7 o8, δ' = [some (.loc (.ref a)), some (.tup [.int l, .int r]), some (.int (many : Nat)), some (.loc (.ref q)), o4, o5, o6, o7, o8]) (passes_of rfl) rfl rfl n_range ev_int (by decide) (by decide) ⟨rfl, _, _, _, _, _, rfl⟩ ?_ ?_)
    · rintro s' M' δ' hs' ⟨rfl, o4, o5, o6, o7, o8, rfl⟩
      have hs : s' < 2 := by omega
      have hs1 : 1 - s' < 2 := by omega
      refine gw_name 4 ?_ ND
      refine sws_cons (sw_set 5 (EW.to (d := .int ((1 - s' : Nat) : Int)) (EV.cast (ev_bin ev_int (ev_var 4 rfl) (by walk_at "op")) (congrArg D.int (by omega))) ?_) ND)
      have hfree : ∀ xs, P_free_at (um M q (.lst xs)) [.loc (.ref a), .int (s' : Nat), .int (pick s' l r), .int (many : Nat)] ((free rs s' (pick s' l r) many).map D.int) := fun xs => ⟨a, rs, s', _, many, rfl, hma xs, hn, by omega, hs, by omega, rfl⟩
      have hfree1 : ∀ xs, P_free_at (um M q (.lst xs)) [.loc (.ref a), .int ((1 - s' : Nat) : Int), .int (pick (1 - s') l r), .int (many : Nat)] ((free rs (1 - s') (pick (1 - s') l r) many).map D.int) := fun xs => ⟨a, rs, 1 - s', _, many, rfl, hma xs, hn, by omega, hs1, by omega, rfl⟩
      have fl := free_len rs s' (pick s' l r) many
      have fl1 := free_len rs (1 - s') (pick (1 - s') l r) many
      generalize hacc : (List.range s').flatMap (waysS rs l r many) = acc
      have hal : acc.length ≤ 10000 := by
        rw [← hacc]
        have h1 := flat_len (waysS_len rs l r many) (List.range s')
        rw [List.length_range] at h1
        have h2 : many * many ≤ 100 * 100 := Nat.mul_le_mul hmany hmany
        have h3 : s' * (many * many) ≤ 1 * (many * many) := Nat.mul_le_mul_right _ (by omega)
        omega
      have hlen : ∀ j, (acc ++ ((free rs s' (pick s' l r) many).take j).flatMap (waysH rs l r many s')).length ≤ 20000 := fun j => by
        rw [List.length_append]
        have h1 := flat_len (waysH_len rs l r many s') ((free rs s' (pick s' l r) many).take j)
        rw [List.length_take] at h1
        have h2 : many * many ≤ 100 * 100 := Nat.mul_le_mul hmany hmany
        have h3 : min j (free rs s' (pick s' l r) many).length * many ≤ many * many := Nat.mul_le_mul_right _ (by omega)
        omega
      refine sws_cons (sw_forL (xs := (free rs s' (pick s' l r) many).map D.int) (fun j M' δ' => M' = um M q (.lst ((acc ++ ((free rs s' (pick s' l r) many).take j).flatMap (waysH rs l r many s')).map encW)) ∧ ∃ o6 o7 o8, δ' = [some (.loc (.ref a)), some (.tup [.int l, .int r]), some (.int (many : Nat)), some (.loc (.ref q)), some (.int (s' : Nat)), some (.int ((1 - s' : Nat) : Int)), o6, o7, o8]) (passes_of rfl) rfl
        (ev_callF G_free_at hr rfl (evs_cons (ev_var 0 rfl) (evs_cons (ev_var 4 rfl) (evs_cons (ev_ix (ev_var 1 rfl) (ev_var 4 rfl) (x_tup (ends_at l r hs))) (evs_cons (ev_var 2 rfl) evs_nil)))) (hfree _)) .l ⟨by rw [List.take_zero, List.flatMap_nil, List.append_nil], _, _, _, rfl⟩ (fun _ _ _ _ => .l) ?_ ?_)
      · rintro j d M' δ' hj ⟨rfl, o6, o7, o8, rfl⟩
        rw [List.getElem?_map] at hj
        cases hh : (free rs s' (pick s' l r) many)[j]? with
        | none => rw [hh] at hj; cases hj
        | some h =>
          rw [hh] at hj; cases hj
          refine gw_name 6 ?_ ND
          refine sws_cons (sw_forL (xs := (free rs (1 - s') (pick (1 - s') l r) many).map D.int) (fun k M' δ' => M' = um M q (.lst (((acc ++ ((free rs s' (pick s' l r) many).take j).flatMap (waysH rs l r many s')) ++ ((free rs (1 - s') (pick (1 - s') l r) many).take k).map (mkW rs l r s' h)).map encW)) ∧ ∃ o7 o8, δ' = [some (.loc (.ref a)), some (.tup [.int l, .int r]), some (.int (many : Nat)), some (.loc (.ref q)), some (.int (s' : Nat)), some (.int ((1 - s' : Nat) : Int)), some (.int h), o7, o8]) (passes_of rfl) rfl
            (ev_callF G_free_at hr rfl (evs_cons (ev_var 0 rfl) (evs_cons (ev_var 5 rfl) (evs_cons (ev_ix (ev_var 1 rfl) (ev_var 5 rfl) (x_tup (ends_at l r hs1))) (evs_cons (ev_var 2 rfl) evs_nil)))) (hfree1 _)) .l ⟨by rw [List.take_zero, List.map_nil, List.append_nil], _, _, rfl⟩ (fun _ _ _ _ => .l) ?_ ?_)
          · rintro k d M' δ' hk ⟨rfl, o7, o8, rfl⟩
            rw [List.getElem?_map] at hk
            cases ho : (free rs (1 - s') (pick (1 - s') l r) many)[k]? with
            | none => rw [ho] at hk; cases hk
            | some o =>
              rw [ho] at hk; cases hk
              refine gw_name 7 ?_ ND
              have hof := (mem_free.mp (List.mem_of_getElem? ho)).2.2
              have hch := chain_ch hP hn (w := h) hs1 hof
              have hcl := chain_len rs (1 - s') (pick (1 - s') l r) h o
              refine sws_cons (sw_set 8 (EW.to (ev_callF G_chain_from hr rfl (evs_cons (ev_var 0 rfl) (evs_cons (ev_var 5 rfl) (evs_cons (ev_ix (ev_var 1 rfl) (ev_var 5 rfl) (x_tup (ends_at l r hs1))) (evs_cons (ev_var 7 rfl) (evs_cons (ev_var 6 rfl) evs_nil))))) ⟨a, rs, 1 - s', pick (1 - s') l r, o, h, chain rs (1 - s') (pick (1 - s') l r) h o, rfl, hma _, by omega, hn, hs1, hch, by omega, rfl⟩) ?_) ND)
              have hL1 := hlen j
              refine sws_cons (sw_expr (ew_append (ev_var 3 rfl) um_same (.inl hq2) ?_ (EW.to (ev_tup (evs_cons (ev_cb rfl n_len b_len (evs_cons (ev_var 8 rfl) evs_nil) (by walk_at "call")) (evs_cons (ev_var 6 rfl) (evs_cons (ev_var 7 rfl) (evs_cons (ev_var 8 rfl) evs_nil))))) ⟨um_same, ?_⟩)))
              · rw [List.length_map, List.length_append, List.length_map, List.length_take]; omega
              · refine sws_nil ⟨?_, _, _, rfl⟩
                have e1 : D.tup [.int (((chain rs (1 - s') (pick (1 - s') l r) h o).map D.int).length : Nat), .int h, .int o, .lst ((chain rs (1 - s') (pick (1 - s') l r) h o).map D.int)] = encW (mkW rs l r s' h o) := by unfold encW mkW; rw [List.length_map]
                rw [um_um, e1, take_snoc ho]
                simp only [List.map_append, List.map_cons, List.map_nil, List.append_assoc]
          · rintro M' δ' ⟨rfl, o7, o8, rfl⟩
            rw [List.length_map, List.take_length]
            refine sws_nil ⟨?_, _, _, _, rfl⟩
            rw [take_snoc hh, List.flatMap_append, List.flatMap_cons, List.flatMap_nil, List.append_nil, List.append_assoc]
            rfl
      · rintro M' δ' ⟨rfl, o6, o7, o8, rfl⟩
        rw [List.length_map, List.take_length]
        refine sws_nil ⟨?_, _, _, _, _, _, rfl⟩
        rw [List.range_succ, List.flatMap_append, hacc, List.flatMap_cons, List.flatMap_nil, List.append_nil]
        rfl
    · rintro M' δ' ⟨rfl, o4, o5, o6, o7, o8, rfl⟩
      have e : (List.range (Int.toNat 2)).flatMap (waysS rs l r many) = ways rs l r many := by
        show waysS rs l r many 0 ++ (waysS rs l r many 1 ++ []) = _
        rw [List.append_nil]; rfl
      rw [e]
      exact sws_cons (sw_ret (EW.to (ev_var 3 rfl) (hΦ q ((hfr q).mpr hq2) hq1)))
theorem alike_ints : ∀ xs ys : List Int, PySem.W.alikeAll (toPys (xs.map D.int)) (toPys (ys.map D.int)) = true
  | [], _ => by simp only [List.map_nil, toPys, PySem.W.alikeAll]
  | _ :: _, [] => by simp only [List.map_nil, List.map_cons, toPys, PySem.W.alikeAll]
  | x :: xs, y :: ys => by simp only [List.map_cons, toPys, toPy, PySem.W.alikeAll, PySem.W.alike, Bool.true_and]; exact alike_ints xs ys
theorem alike_ways (ws : List Way) : PySem.W.AlikeAll (toPys (ws.map encW)) := by
  rw [toPys_map, List.map_map]
  constructor
  · intro x hx y hy
    obtain ⟨a, _, rfl⟩ := List.mem_map.mp hx
    obtain ⟨b, _, rfl⟩ := List.mem_map.mp hy
    show PySem.W.alike (toPy (encW a)) (toPy (encW b)) = true
    simp only [encW, toPy, toPys, PySem.W.alike, PySem.W.alikeAll, Bool.true_and, Bool.and_true]
    exact alike_ints _ _
  · intro x hx
    obtain ⟨a, _, rfl⟩ := List.mem_map.mp hx
    show toPy (encW a) ≠ _
    simp only [encW, toPy]
    exact fun e => by cases e
theorem okDs_ints (xs : List Int) : okDs (xs.map D.int) = true := (okDs_iff _).mpr fun d hd => by
  obtain ⟨i, _, rfl⟩ := List.mem_map.mp hd
  rfl
theorem depDs_ints (xs : List Int) : depDs (xs.map D.int) ≤ 0 := depDs_le _ fun d hd => by
  obtain ⟨i, _, rfl⟩ := List.mem_map.mp hd
  exact Nat.le_refl _
theorem okd_ints (xs : List Int) : Okd (.lst (xs.map D.int)) := Okd.lst fun d hd => by
  obtain ⟨i, _, rfl⟩ := List.mem_map.mp hd
  exact ⟨rfl, Nat.zero_le _⟩
theorem okDs_ways (ws : List Way) : okDs (ws.map encW) = true := (okDs_iff _).mpr fun d hd => by
  obtain ⟨a, _, rfl⟩ := List.mem_map.mp hd
  show okDs [.int a.1, .int a.2.1, .int a.2.2.1, .lst (a.2.2.2.map D.int)] = true
  simp only [okDs, okD, Bool.true_and, Bool.and_true]
  exact okDs_ints _
theorem depDs_ways (ws : List Way) : depDs (ws.map encW) ≤ 2 := depDs_le _ fun d hd => by
  obtain ⟨a, _, rfl⟩ := List.mem_map.mp hd
  show depDs [.int a.1, .int a.2.1, .int a.2.2.1, .lst (a.2.2.2.map D.int)] + 1 ≤ 2
  have := depDs_ints a.2.2.2
  simp only [depDs, depD]
  omega
def gD : Option Int → D
  | none => .non
  | some o => .int o
/-- what is given: rows that stay, or new ones -/
def S_hue_given : FSp := fun _ fr M ds Φ _ => ∃ (a : Addr) (rs : Rows) (l r : Int) (many : Nat), ds = [.loc (.ref a), .tup [.int l, .int r], .int (many : Nat)] ∧ M a = some (.dI (encR rs)) ∧ rs.length ≤ 100 ∧ (keys rs).Nodup ∧ Proper rs ∧ many ≤ 100 ∧ free rs 0 l many ≠ [] ∧ free rs 1 r many ≠ [] ∧
  ∀ q M', M' q = some (.dI (encR (given rs l r many).rows)) → ((q = a ∧ M' = M) ∨ (fr q ∧ M q = none ∧ M' = um M q (.dI (encR (given rs l r many).rows)))) → Φ M' (.tup [.int (given rs l r many).hue, gD (given rs l r many).other, .lst ((given rs l r many).ns.map D.int), .loc (.ref q)])
theorem deq_ints_nil (xs : List Int) : deq (.lst (xs.map D.int)) (.lst []) = xs.isEmpty := by
  rw [deq_lst, deqs_nil_iff]
  cases xs <;> rfl
theorem ok_hue_given (F : FdOk K mg "hue_given" ["rows", "ends", "many"] s_hue_given) (G_free_at : OkF P w K mg base "free_at" ["rows", "side", "end", "many"] 2 S_free_at) (G_ways : OkF P w K mg base "ways" ["rows", "ends", "many"] 3 S_ways) (G_turned : OkF P w K mg base "turned" ["rows", "numbers", "one", "other"] 1 S_turned) (n_min : mg "min" = none) : OkF P w K mg base "hue_given" ["rows", "ends", "many"] 4 S_hue_given := by
  refine fnO F sc_hue_given (fun own fr M ds Φ Ψ h => ?_) (fun f cdv A outer s H E hr b M ds Φ Ψ fr hfr h => ?_)
  · obtain ⟨a, rs, l, r, many, rfl, _⟩ := h
    rfl
  · obtain ⟨a, rs, l, r, many, rfl, hm, hl, hn, hP, hmany, hf0, hf1, hΦ⟩ := h
    have ND := sc_hue_given.nd
    have hfree : ∀ s, s < 2 → P_free_at M [.loc (.ref a), .int (s : Nat), .int (pick s l r), .int (many : Nat)] ((free rs s (pick s l r) many).map D.int) := fun s hs => ⟨a, rs, s, _, many, rfl, hm, hn, by omega, hs, by omega, rfl⟩
    refine sws_cons (sw_set 3 (EW.to (ev_callF G_free_at hr rfl (evs_cons (ev_var 0 rfl) (evs_cons ev_int (evs_cons (ev_ix (ev_var 1 rfl) ev_int (x_tup (ends_at l r (s := 1) (by decide)))) (evs_cons (ev_var 2 rfl) evs_nil)))) (hfree 1 (by decide))) ?_) ND)
    have fl := free_len rs 0 l many
    refine sws_cons (sw_setA (xs := free rs 0 l many) (enc := D.int) 4 [("hue", 6)] [6] (fun h => decide (h ∈ free rs 1 r many)) D.int (fun h => [.int h]) rfl ND (ev_callF G_free_at hr rfl (evs_cons (ev_var 0 rfl) (evs_cons ev_int (evs_cons (ev_ix (ev_var 1 rfl) ev_int (x_tup (ends_at l r (s := 0) (by decide)))) (evs_cons (ev_var 2 rfl) evs_nil)))) (hfree 0 (by decide))) .l (by omega) (fun x hx _ _ _ _ _ => gs_name 6 ND) (fun x hx M2 hM => turn1 (fun _ _ _ _ _ => (tv_cmp (ev_var 6 rfl) (ev_var 3 rfl) (o_inI .l))) fun _ _ _ _ _ _ => (ev_var 6 rfl)) ?_)
    rw [show ((free rs 0 l many).filter fun h => decide (h ∈ free rs 1 r many)) = both rs l r many from rfl]
    refine sws_cons (sw_if (TW.to (tv_cmp (ev_var 4 rfl) (ev_lst evs_nil) (o_neD hr.units .f .f (okd_ints _) (okd_ints []))) ⟨fun hc => ?_, fun hc => ?_⟩))
    · cases hb : both rs l r many with
      | nil => rw [hb] at hc; cases hc
      | cons h t =>
        have hg : given rs l r many = ⟨h, none, [], rs⟩ := by unfold given; rw [hb]
        rw [hg] at hΦ
        exact sws_cons (sw_ret (EW.to (ev_tup (evs_cons (ev_ix (ev_var 4 rfl) ev_int (x_lst (d := .int h) (atI_nat (j := 0) rfl))) (evs_cons ev_non (evs_cons (ev_lst evs_nil) (evs_cons (ev_var 0 rfl) evs_nil))))) (hΦ a M hm (.inl ⟨rfl, rfl⟩))))
    · refine sws_nil ?_
      have hb : both rs l r many = [] := by
        rw [show (List.nil : List D) = ([] : List Int).map D.int from rfl, show ([] : List Int).map D.int = [] from rfl, deq_ints_nil] at hc
        cases e : both rs l r many with
        | nil => rfl
        | cons h t => rw [e] at hc; cases hc
      cases hw : ways rs l r many with
      | nil => exact absurd hw (ways_ne hf0 hf1)
      | cons w0 ws =>
        have hg : given rs l r many = ⟨(minW w0 ws).2.1, some (minW w0 ws).2.2.1, (minW w0 ws).2.2.2, turn rs (minW w0 ws).2.2.2 (minW w0 ws).2.1 (minW w0 ws).2.2.1⟩ := by unfold given; rw [hb, hw]
        rw [hg] at hΦ
        have hmin := c_minD (X := cxOf (L2.CX P w) P w K mg base ["rows", "ends", "many", "right", "both", "size", "hue", "other", "numbers"] "hue_given" (defScope s_hue_given) f cdv A outer s H E) (b := b) (M := M) (d := encW w0) (ds := ws.map encW) rfl hr.units (okDs_ways (w0 :: ws)) (Nat.le_trans (depDs_ways (w0 :: ws)) (by decide)) (alike_ways (w0 :: ws))
        rw [minW_enc] at hmin
        refine sws_cons (sw_asg (EW.to (ev_cb rfl n_min b_min (evs_cons (ev_callF (xs := encW w0 :: ws.map encW) G_ways hr rfl (evs_cons (ev_var 0 rfl) (evs_cons (ev_var 1 rfl) (evs_cons (ev_var 2 rfl) evs_nil))) ⟨a, rs, l, r, many, rfl, hm, hl, hn, hP, hmany, by rw [hw]; rfl⟩) evs_nil) hmin) (gw_tup rfl (gws_cons (gw_name 5 (gws_cons (gw_name 6 (gws_cons (gw_name 7 (gws_cons (gw_name 8 (gws_nil ?_) ND)) ND)) ND)) ND)))))
        have hmem := minW_mem w0 ws
        rw [← hw] at hmem
        generalize minW w0 ws = m at hmem hΦ
        obtain ⟨s', hs', hmem⟩ := mem_ways hmem
        obtain ⟨m1, m2, m3, m4⟩ := mem_waysS hmem
        have hch := chain_ch hP hn (w := m.2.1) (by omega : 1 - s' < 2) (mem_free.mp m2).2.2
        rw [← m3] at hch
        have hcl := chain_len rs (1 - s') (pick (1 - s') l r) m.2.1 m.2.2.1
        rw [← m3] at hcl
        refine sws_cons (sw_ret (ew_tup (ews_cons (EW.to (ev_var 6 rfl) (ews_cons (EW.to (ev_var 7 rfl) (ews_cons (EW.to (ev_var 8 rfl) (ews_cons (ew_callO G_turned hr rfl (EWs.to (evs_cons (ev_var 0 rfl) (evs_cons (ev_var 8 rfl) (evs_cons (ev_var 6 rfl) (evs_cons (ev_var 7 rfl) evs_nil)))) (CallS.of fun fr' hf => ⟨a, .non, rs, m.2.2.2, m.2.1, m.2.2.1, rfl, hm, by omega, hn, by omega, ?_, fun q hq hq1 => ?_⟩))))))))))))
        · intro n hnm
          obtain ⟨x, hx, _⟩ := hch.mem hn n hnm
          exact List.mem_map.mpr ⟨_, hx, rfl⟩
        · refine ews_nil ⟨by show 4 ≤ 1000; decide, ?_⟩
          exact hΦ q _ um_same (.inr ⟨(hfr q).mpr (hf q hq).2, hq1, rfl⟩)
end
end Ph
end

section
set_option maxRecDepth 100000
set_option maxHeartbeats 4000000
/-! D5a: constant tuples of texts; methods and the making of an own class's objects. -/
namespace D4
open PySem L2
/-- a tuple of texts that the module has written -/
def KTup (K : Fg) (a : Addr) (ys : List Str) : Prop := ∃ (o : Obj) (its : Array Value) (n : Nat), K.lookup a = some o ∧ o.cls = .type "tuple" ∧ o.dict = none ∧ o.data = .seq its n ∧ its.size ≤ sizeLine ∧ Vals (ys.map V.str) its.toList
theorem KTup.sq {K : Fg} {a : Addr} {ys : List Str} (h : KTup K a ys) (H : Hp) : SqT K H a (ys.map V.str) := by
  obtain ⟨o, its, n, h1, h2, _, h3, h4, h5⟩ := h
  exact .inr ⟨o, its, n, h1, h2, h3, h4, h5⟩
theorem inV_str (i : Str) : ∀ ns : List Str, inV (.str i) (ns.map V.str) = decide (i ∈ ns)
  | [] => rfl
  | n :: ns => by
    show (eqV (.str n) (.str i) || inV (.str i) (ns.map V.str)) = _
    rw [inV_str i ns]
    have e : eqV (.str n) (.str i) = decide (i = n) := by
      show (n == i) = _
      by_cases h : i = n
      · subst h; simp
      · have : ¬ n = i := fun z => h z.symm
        simp [h, this]
    rw [e]
    by_cases h : i = n
    · simp [h]
    · by_cases h2 : i ∈ ns <;> simp [h, h2]
section
variable {X : Cx} {b : Bs} {δ : Od} {M : Mp} {e o e1 e2 tg : Expr} {es : List Expr} {Φ : Mp → D → Prop} {Ψ : Xs} {d d1 d2 : D} {ds : List D} {pos apos cpos p : Pos} {a C : Addr} {x m : Str} {k j l : Nat} {f : Addr} {fd : FuncData} {ps : List Str} {S : FSp} {ys : List Str} {z : Str}
theorem o_inK (h : KTup X.K a ys) : OW X b (compareOp .In) M (.str z) (.loc (.ref a)) (One M (.bl (decide (z ∈ ys)))) := ow_of op_in_seq fun R mR x y H G Q S z' r1 r2 k => by
  refine ⟨a, _, Rep.loc_iff.mp r2, .inr (h.sq H), by rw [Rep.str_iff.mp r1] <;> rfl, flat_strs ys, ?_⟩
  rw [if_neg (by decide), Rep.str_iff.mp r1, inV_str]
  exact k _ _ _ H ⟨rfl, rfl⟩ ⟨G, S, z', Rep.bl_iff.mpr rfl⟩
theorem o_notinK (h : KTup X.K a ys) : OW X b (compareOp .NotIn) M (.str z) (.loc (.ref a)) (One M (.bl (!decide (z ∈ ys)))) := ow_of op_notIn_seq fun R mR x y H G Q S z' r1 r2 k => by
  refine ⟨a, _, Rep.loc_iff.mp r2, .inr (h.sq H), by rw [Rep.str_iff.mp r1] <;> rfl, flat_strs ys, ?_⟩
  rw [if_pos rfl, Rep.str_iff.mp r1, inV_str]
  exact k _ _ _ H ⟨rfl, rfl⟩ ⟨G, S, z', Rep.bl_iff.mpr rfl⟩
theorem ev_kindex {i : Nat} (h : KTup X.K a ys) (h1 : EV X b δ M o (.loc (.ref a))) (h2 : EV X b δ M e (.str z)) (hz : ys[i]? = some z) (hno : ∀ m, m < i → ys[m]? ≠ some z)
    (hbase : attributeBase o "index" X.env (eval o X.env) = eval o X.env := by rfl)
    (hfew : ((backTo cpos (starEach [e] X.env)).all (fun x => !x.1) && (backToKw cpos (keywordEach [] X.env)).all (fun x => x.1.isSome)
      && decide (([e] : List Expr).length + ([] : List Keyword).length + (if ([] : List Keyword).isEmpty then 0 else 1) < 30)) = true := by exact D4.few_ok rfl)
    (hline : (apos.endLine == cpos.line) = true := by rfl) (hs : starEach [e] X.env = (false, eval e X.env) :: starEach [] X.env := by exact D4.starEach_c rfl) (hplain : (backTo cpos (starEach [] X.env)).any (·.1) = false := by exact D4.back_any rfl) : EV X b δ M (.Call (.Attribute o "index" apos) [e] [] cpos) (.int (i : Nat)) := by
  refine ew_bm PySem.F.plainAttrs_tuple PySem.F.slot_tuple_index PySem.F.type_tuple_index (h1.to ⟨fun G H v S r => ?_, ?_⟩) hbase hfew hline hs hplain
  · obtain ⟨o, its, n, q1, q2, q3, _⟩ := h
    rw [Rep.loc_iff.mp r]
    exact .inr (.inl ⟨rfl, o, q1, q2, q3⟩)
  · refine EWs.to (evs_cons h2 evs_nil hs) (mw_of mt_tup_index fun R mR v vs H G Q S z' r rs k => ?_)
    obtain ⟨w, rfl, rw'⟩ := reps1 rs
    exact ⟨a, ys, z, i, Rep.loc_iff.mp r, by rw [Rep.str_iff.mp rw'], h.sq H, hz, hno, k _ _ _ H ⟨rfl, rfl⟩ ⟨G, S, z', Rep.int_iff.mpr rfl⟩⟩
/-- a class called: its object, filled by __init__ -/
theorem ew_mk (Mk' : Mk X.K C f) (F : FnOk X.prog X.w X.K X.mg X.base (L2.CX X.prog X.w) k f fd ps (spD X.K S)) (hr : Room (k + 1) X.A) (hg : Gl X x) (hm : X.mg x = some (.ref C)) (hb : Binds X.K fd ps [])
    (h : EWs X b δ M (e :: es) (fun M1 ds => ∀ x dx, M1 x = none → Nw b x → CallS b S (um M1 x (.ins C dx [])) (.loc (.ref x) :: ds) (fun M2 d => d = .non ∧ Φ M2 (.loc (.ref x))) Ψ) Ψ)
    (hdb : (x == ("__debug__" : Str)) = false := by decide) (he : starEach (e :: es) X.env = (false, eval e X.env) :: starEach es X.env := by exact D4.starEach_c rfl) (hpl : (backTo pos (starEach es X.env)).any (·.1) = false := by exact D4.back_any rfl) :
    EW X b δ M (.Call (.Name x p) (e :: es) [] pos) Φ Ψ := fun R mR σ H Q SH kk kx => by
  refine we_of (pe_makeSx (E := L2.WE (WXc X)) Mk' F hr hg hm hb (fun σ => passAt takes_wxc σ) pa_wa hdb he hpl) ?_
  refine h R mR σ H _ SH (fun M1 ds vs H1 p1 S1 => ?_) kx
  intro x dx hx hdx hne
  obtain ⟨G, S1, z1, z2, z3⟩ := S1
  obtain ⟨n1, n2, n3⟩ := S1.new hx
  obtain ⟨S2, sg⟩ := S1.frz hdx (.own x)
  have hx2 : upd H1 dx (.own x) x = none := by rw [upd_ne (Ne.symm hne)]; exact hx
  have S3 := S2.cell hx2 (c := .ins C dx []) (o := .ins C dx []) ⟨[], rfl, .nil⟩
  refine (p1 x dx n1 n2).sp (vs := .ref x :: vs) (δ := δ) (σ := σ) mR ⟨_, S3, Mono.env _ _ sg z1, mR _ _ sg z2, .cons (Rep.loc_iff.mpr rfl) (Mono.reps _ _ sg z3)⟩ (fun M' d v H' ⟨e1, q⟩ S' => ?_) kx
  subst e1
  obtain ⟨G', S', w1, w2, w3⟩ := S'
  exact ⟨Rep.non_iff.mp w3, kk _ _ _ _ q ⟨G', S', w1, w2, Rep.loc_iff.mpr rfl⟩⟩
end
section
variable (P : Program) (w : World) (K : Fg) (mg : Str → Option Value) (base : Heap)
/-- a method of the text -/
def FdM (C : Addr) (m qual : Str) (ps : List Str) (st : Stmt) : Prop := ∃ f fd, Fun K m qual st f fd ∧ Meth K C m f ∧ Binds K fd ps []
def OkM (C : Addr) (m : Str) (ps : List Str) (k : Nat) (S : FSp) : Prop := ∃ f fd, FnOk P w K mg base (L2.CX P w) k f fd ps (spD K S) ∧ Meth K C m f ∧ Binds K fd ps []
end
section
variable {P : Program} {w : World} {K : Fg} {mg : Str → Option Value} {base : Heap} {C : Addr}
theorem fnM {m qual : Str} {st : Stmt} {N ps : List Str} {k : Nat} {S : FSp} (F : FdM K C m qual ps st) (sc : FnScope N ps (defScope st)) (len : ∀ own fr M ds Φ Ψ, S own fr M ds Φ Ψ → ds.length = ps.length)
    (hbody : ∀ (f : Addr) (cdv : Value) (A : Around) (outer : List PySem.Env) (s : Shared) (H : Hp) (E : XK), Room k (cxOf (L2.CX P w) P w K mg base N qual (defScope st) f cdv A outer s H E).A →
      ∀ (b : Bs) (M : Mp) (ds : List D) (Φ : Mp → D → Prop) (Ψ : Xs) (fr : Addr → Prop), (∀ p, fr p ↔ Nw b p) → S b.own fr M ds Φ Ψ →
        SWs (cxOf (L2.CX P w) P w K mg base N qual (defScope st) f cdv A outer s H E) b (ds.map some ++ List.replicate (N.length - ds.length) none) M (defBody st) ⟨fun M _ => Φ M .non, Φ, fun _ _ => False, fun _ _ => False, fun c M _ => Ψ c M⟩) :
    OkM P w K mg base C m ps (k + 1) S := by
  obtain ⟨f, fd, F, me, bd⟩ := F
  exact ⟨f, fd, fnD F sc len (hbody f), me, bd⟩
end
section
variable {X : Cx} {b : Bs} {δ : Od} {M : Mp} {e o : Expr} {es : List Expr} {Φ : Mp → D → Prop} {Ψ : Xs} {d : D} {ds : List D} {pos apos : Pos} {a C dx : Addr} {m : Str} {j l : Nat} {ps : List Str} {S : FSp} {fs : List (Str × D)}
theorem ew_methO {pl : Sem Bool} (G : OkM X.prog X.w X.K X.mg X.base C m ps j S) (c : Cls X.K C) (hr : Room l X.A) (h1 : EV X b δ M o (.loc (.ref a))) (hm : M a = some (.ins C dx fs)) (hl : lookF fs m = none) (h : EWs X b δ M (e :: es) (fun M1 ds => CallS b S M1 (.loc (.ref a) :: ds) Φ Ψ) Ψ) (hj : j ≤ l := by decide)
    (hst : starEach (e :: es) X.env = (false, eval e X.env) :: starEach es X.env := by exact D4.starEach_c rfl) (hpl : (backTo pos (starEach es X.env)).any (·.1) = false := by exact D4.back_any rfl)
    (ht : eval (.Call (.Attribute o m apos) (e :: es) [] pos) X.env = (do
      let ov ← eval o X.env
      standAt apos.atName
      let (f, first) ← holding [ov] (getMethod ov m pl)
      callWith pos f first (backTo pos (starEach (e :: es) X.env)) (backToKw pos (keywordEach [] X.env))) := by rfl) : EW X b δ M (.Call (.Attribute o m apos) (e :: es) [] pos) Φ Ψ := by
  obtain ⟨f, fd, F, me, bd⟩ := G
  exact ew_meth F (hr.mono hj) c me bd h1 hm hl h hst hpl ht
theorem ew_methO0 {pl : Sem Bool} (G : OkM X.prog X.w X.K X.mg X.base C m ps j S) (c : Cls X.K C) (hr : Room l X.A) (h1 : EV X b δ M o (.loc (.ref a))) (hm : M a = some (.ins C dx fs)) (hl : lookF fs m = none) (h : CallS b S M [.loc (.ref a)] Φ Ψ) (hj : j ≤ l := by decide)
    (ht : eval (.Call (.Attribute o m apos) [] [] pos) X.env = (do
      let ov ← eval o X.env
      standAt apos.atName
      let (f, first) ← holding [ov] (getMethod ov m pl)
      callWith pos f first (backTo pos (starEach [] X.env)) (backToKw pos (keywordEach [] X.env))) := by rfl) : EW X b δ M (.Call (.Attribute o m apos) [] [] pos) Φ Ψ := by
  obtain ⟨f, fd, F, me, bd⟩ := G
  exact ew_meth0 F (hr.mono hj) c me bd h1 hm hl h ht
end
end D4
end

section
set_option maxRecDepth 100000
set_option maxHeartbeats 4000000
/-! D5b: own exceptions raised. -/
namespace D4
open PySem L2
abbrev veB : List Value := [.type "ValueError", .type "Exception", .type "BaseException", .type "object"]
/-- an own class under ValueError -/
structure XcF (K : Fg) (mg : Str → Option Value) (x : Str) (C : Addr) : Prop where
  q : PySem.W.excIn K C veB "ValueError.__new__" = true
  g : mg x = some (.ref C)
  k : PySem.W.keepIn K (.ref C) = true
  b : PySem.W.subIn K (.ref C) (.type "BaseException") = some true
  t : PySem.W.typeIn K (.ref C) = some (.type "type")
theorem sw_raise {X : Cx} {b : Bs} {δ : Od} {M : Mp} {E : DE} {x m : Str} {j : Nat} {p p2 pos pos' : Pos} {C : Addr} (F : XcF X.K X.mg x C) (hc : X.calm = true) (hg : Gl X x) (h : E.xc (.ref C) M δ) (hdb : (x == ("__debug__" : Str)) = false := by decide) : SW X b δ M (.Raise (some (.Call (.Name x p) [.Constant (.str m) j p2] [] pos)) none pos') E := fun R mR σ H S kx => by
  refine ws_of (ps_raise hc takes_wxc (pmk_own PySem.F.excBase_ValueError F.q F.g F.k (raises_own F.b F.t) hg hdb)) ?_
  exact kx _ _ _ _ _ h S
theorem CallS.val {b : Bs} {P : Mp → List D → D ⊕ Value → Prop} {M : Mp} {ds : List D} {Φ : Mp → D → Prop} {Ψ : Xs} {d : D} (h : P M ds (.inl d)) (q : Φ M d) : CallS b (PureX P) M ds Φ Ψ := ⟨fun _ => False, fun _ z => z.elim, fun _ _ => ⟨.inl d, h, q⟩⟩
theorem CallS.exc {b : Bs} {P : Mp → List D → D ⊕ Value → Prop} {M : Mp} {ds : List D} {Φ : Mp → D → Prop} {Ψ : Xs} {c : Value} (h : P M ds (.inr c)) (q : Ψ c M) : CallS b (PureX P) M ds Φ Ψ := ⟨fun _ => False, fun _ z => z.elim, fun _ _ => ⟨.inr c, h, q⟩⟩
theorem TVW.cast {X : Cx} {b : Bs} {δ : Od} {M : Mp} {e : Expr} {c c' : Bool} (h : TVW X b δ M e c) (q : c = c') : TVW X b δ M e c' := q ▸ h
/-- an int between -/
def amongB (d : D) (lo hi : Int) : Bool := match d with
  | .int i => decide (lo ≤ i) && decide (i ≤ hi)
  | _ => false
end D4
end

section
set_option maxRecDepth 100000
set_option maxHeartbeats 4000000
set_option pp.maxSteps 600
open PySem L2 D4
local macro_rules | `(tactic| walk_at "op") => `(tactic| first
  | exact o_add | exact o_sub | exact o_mul (Or.inr ⟨by decide, by decide⟩) | exact o_mul (Or.inl ⟨by decide, by decide⟩) | exact o_div ⟨by decide, by decide⟩ | exact o_mod (by decide) | exact o_lt | exact o_le | exact o_gt | exact o_ge
  | exact o_eqI | exact o_neI | exact o_eqS | exact o_neS | exact o_eqB | exact o_neB | exact o_isN | exact o_notN)
local macro_rules | `(tactic| walk_at "la") => `(tactic| first | exact LA.l | exact LA.c (by assumption) | exact LA.c um_same | exact LA.c (by walk_at "m"))
local macro_rules | `(tactic| walk_at "ix") => `(tactic| first | exact x_tup rfl | exact x_tup (by assumption) | exact x_scr (by assumption) | exact x_la (by walk_at "la") (by assumption) | exact x_la (by walk_at "la") rfl)
local macro_rules | `(tactic| walk_at "m") => `(tactic| first | assumption | exact um_same | exact um_old (by assumption) (by assumption))
local macro_rules | `(tactic| walk_at "w") => `(tactic| first | assumption | exact Nw.wr (by assumption) | exact Or.inl (by assumption))
local macro_rules | `(tactic| walk_at "dk") => `(tactic| first | exact Or.inl (by walk_at "m") | exact Or.inr ⟨_, _, by walk_at "m"⟩)
local macro_rules | `(tactic| walk_at "key") => `(tactic| first | exact IsKey.i (by walk_at "dk") | exact IsKey.t (by walk_at "m"))
local macro_rules | `(tactic| walk_at "ty") => `(tactic| first | exact TyD.int | exact TyD.bl | exact TyD.str | exact TyD.lst | exact TyD.tup | exact TyD.non | exact TyD.cl (by walk_at "m") | exact TyD.cd (by walk_at "m"))
local macro_rules | `(tactic| walk_at "call") => `(tactic| first
  | exact c_lenA (by walk_at "la") | exact c_len_scr | exact c_len_tup | exact c_len_dk (by walk_at "dk") | exact c_isi (c := true) (by walk_at "ty") | exact c_isi (c := false) (by walk_at "ty")
  | exact c_int_bl | exact c_all rfl | exact c_list_lst | exact c_tuple_lst | exact c_max2 rfl | exact c_min2 rfl)

namespace Ph
open PySem L2 D4 K8
section
variable {P : Program} {w : World} {K : Fg} {mg : Str → Option Value} {base : Heap}
/-! the hall -/
inductive Er where
  | count | side | ends | many | pair | hue | free
def hallF (p : Addr) (a b came : Int) : List (Str × D) := [("sizes", .tup [.int a, .int b]), ("rows", .loc (.ref p)), ("came", .int came)]
theorem ne_sr : ¬ (("sizes" : Str) = "rows") := by decide +kernel
theorem ne_sc : ¬ (("sizes" : Str) = "came") := by decide +kernel
theorem ne_rc : ¬ (("rows" : Str) = "came") := by decide +kernel
theorem hall_sizes (p : Addr) (a b came : Int) : lookF (hallF p a b came) "sizes" = some (.tup [.int a, .int b]) := by
  unfold lookF hallF; simp only [List.lookup, beq_self_eq_true]
theorem hall_rows (p : Addr) (a b came : Int) : lookF (hallF p a b came) "rows" = some (.loc (.ref p)) := by
  unfold lookF hallF; simp only [List.lookup]
  rw [show (("rows" : Str) == "sizes") = false from by decide +kernel]; simp only [beq_self_eq_true]
theorem hall_came (p : Addr) (a b came : Int) : lookF (hallF p a b came) "came" = some (.int came) := by
  unfold lookF hallF; simp only [List.lookup]
  rw [show (("came" : Str) == "sizes") = false from by decide +kernel, show (("came" : Str) == "rows") = false from by decide +kernel]; simp only [beq_self_eq_true]
theorem hall_no (p : Addr) (a b came : Int) {m : Str} (h : ((m == "sizes") || (m == "rows") || (m == "came")) = false) : lookF (hallF p a b came) m = none := by
  simp only [Bool.or_eq_false_iff] at h
  unfold lookF hallF; simp only [List.lookup]
  rw [h.1.1, h.1.2, h.2]
theorem putFD_ne {f g : Str} (h : ¬ g = f) (d v : D) (r : List (Str × D)) : putFD f d ((g, v) :: r) = (g, v) :: putFD f d r := by
  rw [show putFD f d ((g, v) :: r) = if g = f then (g, d) :: r else (g, v) :: putFD f d r from rfl, if_neg h]
theorem putFD_eq (f : Str) (d v : D) (r : List (Str × D)) : putFD f d ((f, v) :: r) = (f, d) :: r := by
  rw [show putFD f d ((f, v) :: r) = if f = f then (f, d) :: r else (f, v) :: putFD f d r from rfl, if_pos rfl]
theorem hall_put_rows (p q : Addr) (a b came : Int) : putFD "rows" (.loc (.ref q)) (hallF p a b came) = hallF q a b came := by
  unfold hallF; rw [putFD_ne ne_sr, putFD_eq]
theorem hall_put_came (p : Addr) (a b came c' : Int) : putFD "came" (.int c') (hallF p a b came) = hallF p a b c' := by
  unfold hallF; rw [putFD_ne ne_sc, putFD_ne ne_rc, putFD_eq]
theorem hall_new (p : Addr) (a b : Int) : putFD "came" (.int 0) (putFD "rows" (.loc (.ref p)) (putFD "sizes" (.tup [.int a, .int b]) [])) = hallF p a b 0 := by
  show putFD "came" (.int 0) (putFD "rows" (.loc (.ref p)) ([("sizes", .tup [.int a, .int b])] : List (Str × D))) = _
  rw [putFD_ne ne_sr, show putFD "rows" (.loc (.ref p)) [] = ([("rows", .loc (.ref p))] : List (Str × D)) from rfl, putFD_ne ne_sc, putFD_ne ne_rc]
  rfl
structure HallT (K : Fg) (mg : Str → Option Value) (C : Addr) : Prop where
  cl : Cls K C
  g : mg "Hall" = some (.ref C)
  n_sizes : NoAttr K C "sizes"
  n_rows : NoAttr K C "rows"
  n_came : NoAttr K C "came"
  mkC : PySem.W.makesIn K C = true
  kpC : PySem.W.keepIn K (.ref C) = true
def P_is_among : Mp → List D → D → Prop := fun M ds d => ∃ (x : D) (t : String) (lo hi : Int), ds = [x, .int lo, .int hi] ∧ TyD M x t ∧ d = .bl (amongB x lo hi)
def S_is_among : FSp := PureS P_is_among
theorem ok_is_among (F : FdOk K mg "is_among" ["thing", "least", "most"] s_is_among) (n_isinstance : mg "isinstance" = none) (n_int : mg "int" = none) (n_bool : mg "bool" = none) : OkF P w K mg base "is_among" ["thing", "least", "most"] 1 S_is_among := by
  refine fnO F sc_is_among (fun own fr M ds Φ Ψ h => ?_) (fun f cdv A outer s H E hr b M ds Φ Ψ fr hfr h => ?_)
  · obtain ⟨d, ⟨x, t, lo, hi, rfl, _⟩, _⟩ := h
    rfl
  · obtain ⟨d, ⟨x, t, lo, hi, rfl, ht, rfl⟩, hΦ⟩ := h
    have neg : ∀ (t : String), TyD M x t → kitB t "int" = some false → amongB x lo hi = false → SWs (cxOf (L2.CX P w) P w K mg base ["thing", "least", "most"] "is_among" (defScope s_is_among) f cdv A outer s H E) b [some x, some (.int lo), some (.int hi)] M (defBody s_is_among) ⟨fun M _ => Φ M .non, Φ, fun _ _ => False, fun _ _ => False, fun c M _ => Ψ c M⟩ := fun t ht hk hb => by
      rw [hb] at hΦ
      exact sws_cons (sw_ret (EW.to (EV.cast (ev_and (c2 := false) (ev_cb rfl n_isinstance b_isinstance (evs_cons (ev_var 0 rfl) (evs_cons (ev_bltn (v := .ty "int") rfl n_int b_int rfl) evs_nil)) (c_isi (c := false) ht hk)) fun z => by cases z) (by rfl)) hΦ))
    cases ht with
    | int =>
      rename_i i
      exact sws_cons (sw_ret (EW.to (EV.cast (ev_and (ev_cb rfl n_isinstance b_isinstance (evs_cons (ev_var 0 rfl) (evs_cons (ev_bltn (v := .ty "int") rfl n_int b_int rfl) evs_nil)) (c_isi (c := true) TyD.int)) fun _ => (ev_and (ev_not (ev_cb rfl n_isinstance b_isinstance (evs_cons (ev_var 0 rfl) (evs_cons (ev_bltn (v := .ty "bool") rfl n_bool b_bool rfl) evs_nil)) (c_isi (c := false) TyD.int))) fun _ => (ev_one (ev_chain (ev_var 1 rfl) (ev_var 0 rfl) (ev_var 2 rfl) op_le op_le (fun _ _ => rfl) (fun _ _ => rfl))))) (by rfl)) hΦ))
    | bl =>
      rename_i c
      exact sws_cons (sw_ret (EW.to (EV.cast (ev_and (c2 := false) (ev_cb rfl n_isinstance b_isinstance (evs_cons (ev_var 0 rfl) (evs_cons (ev_bltn (v := .ty "int") rfl n_int b_int rfl) evs_nil)) (c_isi (c := true) TyD.bl)) fun _ => EV.cast (ev_and (c2 := false) (ev_not (ev_cb rfl n_isinstance b_isinstance (evs_cons (ev_var 0 rfl) (evs_cons (ev_bltn (v := .ty "bool") rfl n_bool b_bool rfl) evs_nil)) (c_isi (c := true) TyD.bl))) fun z => by cases z) (by rfl)) (by rfl)) hΦ))
    | non => exact neg _ .non (by decide +kernel) rfl
    | str => exact neg _ .str (by decide +kernel) rfl
    | lst => exact neg _ .lst (by decide +kernel) rfl
    | tup => exact neg _ .tup (by decide +kernel) rfl
    | cl h => exact neg _ (.cl h) (by decide +kernel) rfl
    | cd h => exact neg _ (.cd h) (by decide +kernel) rfl
def sideOf : D → Option Nat
  | .str z => if z = "left" then some 0 else if z = "right" then some 1 else none
  | _ => none
theorem sideOf_str (z : Str) : sideOf (.str z) = if z = "left" then some 0 else if z = "right" then some 1 else none := rfl
def sides : List Str := ["left", "right"]
def placeR (er : Er → Addr) (sd e : D) (a b : Int) : D ⊕ Value := match sideOf sd with
  | none => .inr (.ref (er .side))
  | some i => if amongB e 0 (pick i a b - 1) = true then .inl (.int (i : Nat)) else .inr (.ref (er .ends))
theorem placeR_none {er : Er → Addr} {sd e : D} {a b : Int} (h : sideOf sd = none) : placeR er sd e a b = .inr (.ref (er .side)) := by unfold placeR; rw [h]
theorem placeR_some {er : Er → Addr} {sd e : D} {a b : Int} {i : Nat} (h : sideOf sd = some i) : placeR er sd e a b = if amongB e 0 (pick i a b - 1) = true then .inl (.int (i : Nat)) else .inr (.ref (er .ends)) := by unfold placeR; rw [h]
def P_place_of (C : Addr) (er : Er → Addr) : Mp → List D → D ⊕ Value → Prop := fun M ds r => ∃ (h dx p : Addr) (a b came : Int) (sd e : D) (ts te : String), ds = [.loc (.ref h), sd, e] ∧ M h = some (.ins C dx (hallF p a b came)) ∧ TyD M sd ts ∧ TyD M e te ∧ r = placeR er sd e a b
def S_place_of (C : Addr) (er : Er → Addr) : FSp := PureX (P_place_of C er)
theorem side_cases (sd : D) : (sideOf sd = none ∧ ∀ z, sd = .str z → z ∉ sides) ∨ ∃ i z, sideOf sd = some i ∧ i < 2 ∧ sd = .str z ∧ sides[i]? = some z ∧ (∀ m, m < i → sides[m]? ≠ some z) ∧ z ∈ sides := by
  cases sd with
  | str z =>
    by_cases h1 : z = "left"
    · subst h1
      exact .inr ⟨0, _, by rw [sideOf_str, if_pos rfl], by decide, rfl, rfl, fun m hm => absurd hm (Nat.not_lt_zero _), by unfold sides; simp⟩
    · by_cases h2 : z = "right"
      · subst h2
        refine .inr ⟨1, _, by rw [sideOf_str, if_neg h1, if_pos rfl], by decide, rfl, rfl, fun m hm => ?_, by unfold sides; simp⟩
        have : m = 0 := by omega
        subst this
        intro z
        exact h1 (Option.some.inj z).symm
      · refine .inl ⟨by rw [sideOf_str, if_neg h1, if_neg h2], fun y e => ?_⟩
        cases e
        unfold sides
        simp [h1, h2]
  | non => exact .inl ⟨rfl, fun z e => by cases e⟩
  | bl _ => exact .inl ⟨rfl, fun z e => by cases e⟩
  | int _ => exact .inl ⟨rfl, fun z e => by cases e⟩
  | lst _ => exact .inl ⟨rfl, fun z e => by cases e⟩
  | tup _ => exact .inl ⟨rfl, fun z e => by cases e⟩
  | scr _ => exact .inl ⟨rfl, fun z e => by cases e⟩
  | loc _ => exact .inl ⟨rfl, fun z e => by cases e⟩
theorem ok_place_of {C : Addr} {er : Er → Addr} {sdA : Addr} (F : FdM K C "place_of" "Hall.place_of" ["self", "side", "end"] s_Hall_place_of) (T : HallT K mg C) (G_is_among : OkF P w K mg base "is_among" ["thing", "least", "most"] 1 S_is_among)
    (g_SIDES : mg "SIDES" = some (.ref sdA)) (kt : KTup K sdA sides) (X_side : XcF K mg "BadSide" (er .side)) (X_ends : XcF K mg "BadEnd" (er .ends)) (n_isinstance : mg "isinstance" = none) (n_str : mg "str" = none) : OkM P w K mg base C "place_of" ["self", "side", "end"] 2 (S_place_of C er) := by
  refine fnM F sc_Hall_place_of (fun own fr M ds Φ Ψ h => ?_) (fun f cdv A outer s H E hr b M ds Φ Ψ fr hfr h => ?_)
  · obtain ⟨_, ⟨h, dx, p, a, b, came, sd, e, ts, te, rfl, _⟩, _⟩ := h
    rfl
  · obtain ⟨_, ⟨h, dx, p, a, b', came, sd, e, ts, te, rfl, hm, hts, hte, rfl⟩, hΦ⟩ := h
    have ND := sc_Hall_place_of.nd
    rcases side_cases sd with ⟨hs, hz⟩ | ⟨i, z, hs, hi, rfl, hz, hno, hmem⟩
    · rw [placeR_none hs] at hΦ
      refine sws_cons (sw_if (TW.to (c := true) ?_ ⟨fun _ => sws_cons (sw_raise X_side rfl rfl hΦ), fun hc => (by cases hc)⟩))
      have hcase : (∃ t, TyD M sd t ∧ kitB t "str" = some false) ∨ ∃ y, sd = .str y := by
        cases hts with
        | str => exact .inr ⟨_, rfl⟩
        | int => exact .inl ⟨_, .int, by decide +kernel⟩
        | bl => exact .inl ⟨_, .bl, by decide +kernel⟩
        | non => exact .inl ⟨_, .non, by decide +kernel⟩
        | lst => exact .inl ⟨_, .lst, by decide +kernel⟩
        | tup => exact .inl ⟨_, .tup, by decide +kernel⟩
        | cl h => exact .inl ⟨_, .cl h, by decide +kernel⟩
        | cd h => exact .inl ⟨_, .cd h, by decide +kernel⟩
      rcases hcase with ⟨t, ht, hk⟩ | ⟨y, rfl⟩
      · exact tv_pw (TVW.cast (tvw_or (c2 := true) (tv_not (tv_val (ev_cb rfl n_isinstance b_isinstance (evs_cons (ev_var 1 rfl) (evs_cons (ev_bltn (v := .ty "str") rfl n_str b_str rfl) evs_nil)) (c_isi (c := false) ht hk)))) fun q => (by cases q)) (by rfl))
      · exact tv_pw (TVW.cast (tvw_or (tv_not (tv_val (ev_cb rfl n_isinstance b_isinstance (evs_cons (ev_var 1 rfl) (evs_cons (ev_bltn (v := .ty "str") rfl n_str b_str rfl) evs_nil)) (c_isi (c := true) TyD.str)))) fun _ => tvw_or1 (tv_cmp (ev_var 1 rfl) (ev_glob (v := .ref sdA) rfl g_SIDES rfl fun _ => Rep.loc_iff.mpr rfl) (o_notinK kt))) (by rw [decide_eq_false (hz y rfl)]; rfl))
    · rw [placeR_some hs] at hΦ
      refine sws_cons (sw_if (TW.to (c := false) (tv_pw (TVW.cast (tvw_or (tv_not (tv_val (ev_cb rfl n_isinstance b_isinstance (evs_cons (ev_var 1 rfl) (evs_cons (ev_bltn (v := .ty "str") rfl n_str b_str rfl) evs_nil)) (c_isi (c := true) TyD.str)))) fun _ => tvw_or1 (tv_cmp (ev_var 1 rfl) (ev_glob (v := .ref sdA) rfl g_SIDES rfl fun _ => Rep.loc_iff.mpr rfl) (o_notinK kt))) (by rw [decide_eq_true hmem]; rfl))) ⟨fun hc => (by cases hc), fun _ => sws_nil ?_⟩))
      refine sws_cons (sw_set 3 (EW.to (ev_kindex kt (ev_glob (v := .ref sdA) rfl g_SIDES rfl fun _ => Rep.loc_iff.mpr rfl) (ev_var 1 rfl) hz hno) ?_) ND)
      refine sws_cons (sw_if (TW.to (tv_not (tv_val (ev_callO G_is_among hr rfl (evs_cons (ev_var 2 rfl) (evs_cons ev_int (evs_cons (ev_bin (ev_ix (ev_fld (ev_var 0 rfl) hm T.cl T.n_sizes (hall_sizes _ _ _ _)) (ev_var 3 rfl) (x_tup (ends_at a b' hi))) ev_int (by walk_at "op")) evs_nil))) ⟨e, te, _, _, rfl, hte, rfl⟩))) ⟨fun hc => ?_, fun hc => sws_nil ?_⟩))
      · have hc : amongB e 0 (pick i a b' - 1) = false := by simpa using hc
        rw [hc, if_neg (by decide)] at hΦ
        exact sws_cons (sw_raise X_ends rfl rfl hΦ)
      · have hc : amongB e 0 (pick i a b' - 1) = true := by simpa using hc
        rw [if_pos hc] at hΦ
        exact sws_cons (sw_ret (EW.to (ev_var 3 rfl) hΦ))
end
end Ph
end

section
set_option maxRecDepth 100000
set_option maxHeartbeats 4000000
/-! D5c: maps of cells, small. -/
namespace D4
open PySem L2
theorem um_comm {M : Mp} {a b : Addr} {c d : C} (h : a ≠ b) : um (um M a c) b d = um (um M b d) a c := by
  funext x
  by_cases h1 : x = a
  · subst h1; rw [um_ne h, um_same, um_same]
  · by_cases h2 : x = b
    · subst h2; rw [um_same, um_ne h1, um_same]
    · rw [um_ne h2, um_ne h1, um_ne h1, um_ne h2]
theorem um_id {M : Mp} {a : Addr} {c : C} (h : M a = some c) : um M a c = M := by
  funext x
  by_cases h1 : x = a
  · subst h1; rw [um_same, h]
  · rw [um_ne h1]
theorem sub_um {M M' : Mp} {a : Addr} {c : C} (h : ∀ x d, x ≠ a → M x = some d → M' x = some d) (ha : M' a = some c) : Sub (um M a c) M' := fun x d e => by
  by_cases h1 : x = a
  · subst h1; rw [um_same] at e; cases e; exact ha
  · rw [um_ne h1] at e; exact h x d h1 e
theorem ne_cell {M : Mp} {a b : Addr} {c d : C} (h : M a = some c) (h' : M b = some d) (hcd : c ≠ d) : a ≠ b := fun e => by
  subst e; rw [h] at h'; exact hcd (Option.some.inj h')
theorem Keyed.snoc {side : Int} {rs : List D} {ks : List Int} (h : Keyed side rs ks) {fs : List D} {k : Int} (hk : atI fs side = some (.int k)) : Keyed side (rs ++ [.tup fs]) (ks ++ [k]) := by
  induction h with
  | nil => exact .cons ⟨fs, rfl, hk⟩ .nil
  | cons a t ih => exact .cons a ih
section
variable {X : Cx} {b : Bs} {δ : Od} {M : Mp} {o : Expr} {p apos cpos pos : Pos} {a : Addr} {vs : List D}
theorem ev_listVals (hc : X.calm = true) (hg : Gl X "list") (hm : X.mg "list" = none) (h : EV X b δ M o (.loc (.ref a))) (hv : ValsA M a vs) (hbase : attributeBase o "values" X.env (eval o X.env) = eval o X.env := by rfl) (hline : (apos.endLine == cpos.line) = true := by rfl) : EV X b δ M (.Call (.Name "list" p) [.Call (.Attribute o "values" apos) [] [] cpos] [] pos) (.lst vs) :=
  ew_listVals hc hg hm (h.to ⟨a, vs, rfl, hv, rfl, rfl⟩) hbase hline
end
end D4
end

section
set_option maxHeartbeats 1000000
/-! M4: the state of a hall, and what a pair that comes makes of it. Plain mathematics. -/
namespace Ph
open PySem L2 D4 K8
def endsOf (rs : Rows) (s : Nat) : List Int := rs.map fun x => endOf s x.2
theorem ends_map (rs : Rows) (s : Nat) : (rs.map (·.2)).map (endOf s) = endsOf rs s := by rw [List.map_map]; rfl
theorem cntR_ends (rs : Rows) : cntR (rs.map (·.2)) = cntOf (endsOf rs 0) (endsOf rs 1) := by unfold cntR; rw [ends_map, ends_map]
structure Inv (rs : Rows) (came : Int) : Prop where
  proper : Proper rs
  nd : (keys rs).Nodup
  below : ∀ n ∈ keys rs, 0 ≤ n ∧ n < came
  fit : Fit rs (cntR (rs.map (·.2)))
  len : rs.length ≤ 40
  c0 : 0 ≤ came
def manyOf (rs : Rows) (l r : Int) : Nat := cntOf (endsOf rs 0 ++ [l]) (endsOf rs 1 ++ [r])
def comeG (rs : Rows) (l r : Int) : Gv := given rs l r (manyOf rs l r)
def comeR (rs : Rows) (came l r : Int) : Rows := put (comeG rs l r).rows came (l, r, (comeG rs l r).hue)
theorem deg_app (ks : List Int) (k : Int) : deg ks ≤ deg (ks ++ [k]) := by
  rcases deg_mem ks with h | ⟨j, _, h⟩
  · rw [h]; exact Nat.zero_le _
  · rw [h]
    have h1 : ks.count j ≤ (ks ++ [k]).count j := by rw [List.count_append]; omega
    exact Nat.le_trans h1 (count_le_deg _ _)
theorem count_lt_deg (ks : List Int) (k : Int) : ks.count k < deg (ks ++ [k]) := by
  have h1 : (ks ++ [k]).count k = ks.count k + 1 := by rw [List.count_append]; simp
  have := count_le_deg (ks ++ [k]) k
  omega
theorem Fit.up {rs : Rows} {m n : Nat} (h : Fit rs m) (hl : m ≤ n) : Fit rs n := fun x hx => by
  have := h x hx
  exact ⟨this.1, by omega⟩
theorem put_new {rs : Rows} {n : Int} {r : Row} (h : n ∉ keys rs) : put rs n r = rs ++ [(n, r)] := by unfold put; rw [if_neg h]
theorem cnt_mono (rs : Rows) (l r : Int) : cntR (rs.map (·.2)) ≤ manyOf rs l r := by
  rw [cntR_ends]
  unfold manyOf cntOf
  have := deg_app (endsOf rs 0) l
  have := deg_app (endsOf rs 1) r
  omega
theorem many_l (rs : Rows) (l r : Int) : (endsOf rs 0).count l < manyOf rs l r := by
  unfold manyOf cntOf
  have := count_lt_deg (endsOf rs 0) l
  omega
theorem many_r (rs : Rows) (l r : Int) : (endsOf rs 1).count r < manyOf rs l r := by
  unfold manyOf cntOf
  have := count_lt_deg (endsOf rs 1) r
  omega
theorem many_le (rs : Rows) (l r : Int) : manyOf rs l r ≤ rs.length + 1 := by
  unfold manyOf
  have := cnt_le_len (endsOf rs 0 ++ [l]) (endsOf rs 1 ++ [r]) (by unfold endsOf; simp)
  unfold endsOf at this ⊢
  simpa using this
theorem come_ok {rs : Rows} {came : Int} (I : Inv rs came) (l r : Int) : GvOk rs l r (manyOf rs l r) (comeG rs l r) :=
  given_ok I.proper I.nd (I.fit.up (cnt_mono rs l r)) (many_l rs l r) (many_r rs l r)
theorem keys_len (rs : Rows) : (keys rs).length = rs.length := List.length_map _
theorem GvOk.len {rs : Rows} {l r : Int} {many : Nat} {g : Gv} (h : GvOk rs l r many g) : g.rows.length = rs.length := by
  rw [← keys_len, h.keys, keys_len]
theorem GvOk.ends' {rs : Rows} {l r : Int} {many : Nat} {g : Gv} (h : GvOk rs l r many g) (s : Nat) : endsOf g.rows s = endsOf rs s := h.ends s
theorem comeR_eq {rs : Rows} {came : Int} (I : Inv rs came) (l r : Int) : comeR rs came l r = (comeG rs l r).rows ++ [(came, l, r, (comeG rs l r).hue)] := by
  unfold comeR
  refine put_new ?_
  rw [(come_ok I l r).keys]
  intro h
  have := (I.below _ h).2
  omega
theorem proper_snoc {rs : Rows} (P : Proper rs) {n l r h : Int} (h0 : idx rs 0 l h = none) (h1 : idx rs 1 r h = none) : Proper (rs ++ [(n, l, r, h)]) := by
  have key : ∀ x ∈ rs, ∀ s < 2, endOf s x.2 = endOf s (l, r, h) → hueOf x.2 ≠ h := by
    intro x hx s hs he
    rcases (show s = 0 ∨ s = 1 by omega) with rfl | rfl
    · exact idx_none.mp h0 x hx he
    · exact idx_none.mp h1 x hx he
  intro x hx y hy s hs he hh
  rcases List.mem_append.mp hx with hx | hx
  · rcases List.mem_append.mp hy with hy | hy
    · exact P x hx y hy s hs he hh
    · rw [List.mem_singleton.mp hy] at he hh
      exact absurd hh (key x hx s hs he)
  · rcases List.mem_append.mp hy with hy | hy
    · rw [List.mem_singleton.mp hx] at he hh
      exact absurd hh.symm (key y hy s hs he.symm)
    · rw [List.mem_singleton.mp hx, List.mem_singleton.mp hy]
theorem inv_come {rs : Rows} {came : Int} (I : Inv rs came) (h : rs.length < 40) (l r : Int) : Inv (comeR rs came l r) (came + 1) := by
  have G := come_ok I l r
  have e := comeR_eq I l r
  have ek : keys (comeR rs came l r) = keys rs ++ [came] := by
    rw [e]; unfold keys; rw [List.map_append]
    show keys (comeG rs l r).rows ++ [came] = _
    rw [G.keys]; rfl
  have ee : ∀ s, endsOf (comeR rs came l r) s = endsOf rs s ++ [endOf s (l, r, 0)] := fun s => by
    rw [e]; unfold endsOf; rw [List.map_append]
    show endsOf (comeG rs l r).rows s ++ _ = _
    rw [G.ends']; rfl
  have em : cntR ((comeR rs came l r).map (·.2)) = manyOf rs l r := by
    rw [cntR_ends, ee, ee]; rfl
  have hc := I.c0
  refine ⟨?_, ?_, ?_, ?_, ?_, by omega⟩
  · rw [e]; exact proper_snoc G.proper G.left G.right
  · rw [ek, List.nodup_append]
    refine ⟨I.nd, by simp, fun a ha b hb => ?_⟩
    rw [List.mem_singleton.mp hb]
    have := (I.below a ha).2
    omega
  · intro n hn
    rw [ek] at hn
    rcases List.mem_append.mp hn with hn | hn
    · have := I.below n hn; omega
    · rw [List.mem_singleton.mp hn]; omega
  · rw [em, e]
    intro x hx
    rcases List.mem_append.mp hx with hx | hx
    · exact G.fit x hx
    · rw [List.mem_singleton.mp hx]; exact ⟨G.hue0, G.hue1⟩
  · rw [e, List.length_append, G.len]; show _ + 1 ≤ 40; omega
theorem inv_nil : Inv [] 0 := ⟨fun x hx => (by cases hx), List.nodup_nil, fun n hn => (by cases hn), fun x hx => (by cases hx), Nat.zero_le _, Int.le_refl _⟩
/-- the numbers, rising -/
def sortK (ks : List Int) : List Int := ks.mergeSort fun a b => decide (a ≤ b)
theorem sortK_perm (ks : List Int) : (sortK ks).Perm ks := List.mergeSort_perm _ _
theorem sortK_le (ks : List Int) : (sortK ks).Pairwise (· ≤ ·) := by
  have := List.pairwise_mergeSort (le := fun a b : Int => decide (a ≤ b)) (fun a b c h1 h2 => by simp only [decide_eq_true_eq] at *; omega) (fun a b => by simp only [Bool.or_eq_true, decide_eq_true_eq]; omega) ks
  exact this.imp fun h => by simpa using h
theorem mem_sortK {ks : List Int} {n : Int} : n ∈ sortK ks ↔ n ∈ ks := (sortK_perm ks).mem_iff
end Ph
end

section
set_option maxRecDepth 100000
set_option maxHeartbeats 4000000
set_option pp.maxSteps 600
open PySem L2 D4
local macro_rules | `(tactic| walk_at "op") => `(tactic| first
  | exact o_add | exact o_sub | exact o_mul (Or.inr ⟨by decide, by decide⟩) | exact o_mul (Or.inl ⟨by decide, by decide⟩) | exact o_div ⟨by decide, by decide⟩ | exact o_mod (by decide) | exact o_lt | exact o_le | exact o_gt | exact o_ge
  | exact o_eqI | exact o_neI | exact o_eqS | exact o_neS | exact o_eqB | exact o_neB | exact o_isN | exact o_notN)
local macro_rules | `(tactic| walk_at "la") => `(tactic| first | exact LA.l | exact LA.c (by assumption) | exact LA.c um_same | exact LA.c (by walk_at "m"))
local macro_rules | `(tactic| walk_at "ix") => `(tactic| first | exact x_tup rfl | exact x_tup (by assumption) | exact x_scr (by assumption) | exact x_la (by walk_at "la") (by assumption) | exact x_la (by walk_at "la") rfl)
local macro_rules | `(tactic| walk_at "m") => `(tactic| first | assumption | exact um_same | exact um_old (by assumption) (by assumption))
local macro_rules | `(tactic| walk_at "w") => `(tactic| first | assumption | exact Nw.wr (by assumption) | exact Or.inl (by assumption))
local macro_rules | `(tactic| walk_at "dk") => `(tactic| first | exact Or.inl (by walk_at "m") | exact Or.inr ⟨_, _, by walk_at "m"⟩)
local macro_rules | `(tactic| walk_at "key") => `(tactic| first | exact IsKey.i (by walk_at "dk") | exact IsKey.t (by walk_at "m"))
local macro_rules | `(tactic| walk_at "ty") => `(tactic| first | exact TyD.int | exact TyD.bl | exact TyD.str | exact TyD.lst | exact TyD.tup | exact TyD.non | exact TyD.cl (by walk_at "m") | exact TyD.cd (by walk_at "m"))
local macro_rules | `(tactic| walk_at "call") => `(tactic| first
  | exact c_lenA (by walk_at "la") | exact c_len_scr | exact c_len_tup | exact c_len_dk (by walk_at "dk") | exact c_isi (c := true) (by walk_at "ty") | exact c_isi (c := false) (by walk_at "ty")
  | exact c_int_bl | exact c_all rfl | exact c_list_lst | exact c_tuple_lst | exact c_max2 rfl | exact c_min2 rfl)

namespace Ph
open PySem L2 D4 K8
section
variable {P : Program} {w : World} {K : Fg} {mg : Str → Option Value} {base : Heap}
/-- a cell of the script, 0 beyond its end -/
def cellAt (ns : List Int) (k : Nat) : Int := ns.getD k 0
def S_cell_at : FSp := PureS fun _ ds d => ∃ (ns : List Int) (k : Nat), ds = [.scr ns, .int (k : Int)] ∧ d = .int (cellAt ns k)
theorem ok_cell_at (F : FdOk K mg "_law_cell_at" ["_law_script", "_law_k"] s_law_cell_at) (n_len : mg "len" = none) : OkF P w K mg base "_law_cell_at" ["_law_script", "_law_k"] 1 S_cell_at := by
  refine fnO F sc_law_cell_at (fun own fr M ds Φ Ψ h => ?_) (fun f cdv A outer s H E hr b M ds Φ Ψ fr hfr h => ?_)
  · obtain ⟨d, ⟨ns, k, rfl, rfl⟩, _⟩ := h
    rfl
  · obtain ⟨d, ⟨ns, k, rfl, rfl⟩, hΦ⟩ := h
    refine sws_cons (sw_if (TW.to (tv_cmp (ev_var 1 rfl) (ev_cb rfl n_len b_len (evs_cons (ev_var 0 rfl) evs_nil) (by walk_at "call")) (by walk_at "op")) ⟨fun hc => ?_, fun hc => ?_⟩))
    · have hlt : k < ns.length := by simpa using hc
      have hat : atI ns (k : Int) = some (cellAt ns k) := atI_nat (by unfold cellAt; simp [hlt])
      exact sws_cons (sw_ret (EW.to (ev_ix (ev_var 0 rfl) (ev_var 1 rfl) (by walk_at "ix")) hΦ))
    · refine sws_nil ?_
      have hlt : ¬ k < ns.length := by simpa using hc
      have e : cellAt ns k = 0 := by unfold cellAt; simp [Nat.le_of_not_lt hlt]
      rw [e] at hΦ
      exact sws_cons (sw_ret (EW.to ev_int hΦ))
def mixed (c k : Int) : Int := (c * 48271 + 7919 * k * k + 31 * k) % 2147483647 / 7
def S_mixed : FSp := PureS fun _ ds d => ∃ (c k : Int), ds = [.int c, .int k] ∧ -1000000 ≤ k ∧ k ≤ 1000000 ∧ d = .int (mixed c k)
theorem ok_mixed (F : FdOk K mg "_law_mixed" ["_law_cell", "_law_k"] s_law_mixed) : OkF P w K mg base "_law_mixed" ["_law_cell", "_law_k"] 1 S_mixed := by
  refine fnO F sc_law_mixed (fun own fr M ds Φ Ψ h => ?_) (fun f cdv A outer s H E hr b M ds Φ Ψ fr hfr h => ?_)
  · obtain ⟨d, ⟨ns, k, rfl, _⟩, _⟩ := h
    rfl
  · obtain ⟨d, ⟨c, k, rfl, k1, k2, rfl⟩, hΦ⟩ := h
    have hk : CMul (7919 * k) k := Or.inr ⟨by omega, by omega⟩
    exact sws_cons (sw_ret (EW.to (ev_bin (ev_bin (ev_bin (ev_bin (ev_bin (ev_var 0 rfl) ev_int (by walk_at "op")) (ev_bin (ev_bin ev_int (ev_var 1 rfl) (by walk_at "op")) (ev_var 1 rfl) (o_mul hk)) (by walk_at "op")) (ev_bin ev_int (ev_var 1 rfl) (by walk_at "op")) (by walk_at "op")) ev_int (by walk_at "op")) ev_int (by walk_at "op")) hΦ))
/-- a whole number, no bool -/
def S_whole : FSp := PureS fun M ds d => ∃ i : Int, ds = [.int i] ∧ d = .bl true
theorem ok_whole (F : FdOk K mg "_law_whole" ["_law_found"] s_law_whole) (n_isinstance : mg "isinstance" = none) (n_int : mg "int" = none) (n_bool : mg "bool" = none) : OkF P w K mg base "_law_whole" ["_law_found"] 1 S_whole := by
  refine fnO F sc_law_whole (fun own fr M ds Φ Ψ h => ?_) (fun f cdv A outer s H E hr b M ds Φ Ψ fr hfr h => ?_)
  · obtain ⟨d, ⟨ns, rfl, rfl⟩, _⟩ := h
    rfl
  · obtain ⟨d, ⟨i, rfl, rfl⟩, hΦ⟩ := h
    exact sws_cons (sw_ret (EW.to (EV.cast (ev_and (ev_cb rfl n_isinstance b_isinstance (evs_cons (ev_var 0 rfl) (evs_cons (ev_bltn (v := .ty "int") rfl n_int b_int rfl) evs_nil)) (by walk_at "call")) fun _ => ev_one (ev_not (ev_cb rfl n_isinstance b_isinstance (evs_cons (ev_var 0 rfl) (evs_cons (ev_bltn (v := .ty "bool") rfl n_bool b_bool rfl) evs_nil)) (by walk_at "call")))) (by rfl)) hΦ))
def S_fulls : FSp := fun _ fr M ds Φ _ => ∃ (rs : List D) (ks : List Int) (side : Int), ds = [.lst rs, .int side] ∧ Keyed side rs ks ∧ rs.length ≤ 1000 ∧ ∀ p, fr p → M p = none → Φ (um M p (.dI (fullsD ks))) (.loc (.ref p))
theorem ok_fulls (F : FdOk K mg "fulls" ["rows", "side"] s_fulls) : OkF P w K mg base "fulls" ["rows", "side"] 1 S_fulls := by
  refine fnO F sc_fulls (fun own fr M ds Φ Ψ h => ?_) (fun f cdv A outer s H E hr b M ds Φ Ψ fr hfr h => ?_)
  · obtain ⟨rs, ks, side, rfl, _⟩ := h
    rfl
  · obtain ⟨rs, ks, side, rfl, hk, hl, hΦ⟩ := h
    have hu := hu_of hr
    refine sws_cons (sw_set 2 (ew_dictI fun p hp1 hp2 => ?_) sc_fulls.nd)
    refine sws_cons (sw_forL (fun i M' δ' => M' = um M p (.dI (fullsD (ks.take i))) ∧ ∃ o, δ' = [some (.lst rs), some (.int side), some (.loc (.ref p)), o]) (passes_of rfl) rfl (ev_var 0 rfl) .l ⟨rfl, _, rfl⟩ (fun _ _ _ _ => .l) ?_ ?_)
    · rintro i d M' δ' hi ⟨rfl, o, rfl⟩
      obtain ⟨fs, k, rfl, hat, hki⟩ := hk.get hi
      refine gw_name 3 ?_ sc_fulls.nd
      have hlen : (fullsD (ks.take i)).length < 100000 := by
        have h1 := fulls_len (ks.take i)
        rw [List.length_take] at h1
        have h2 := hk.len
        omega
      refine sws_cons (sw_dput hu (ev_bin ((ev_dget2 hu (ev_var 2 rfl) (ev_ix (ev_var 3 rfl) (ev_var 1 rfl) (by walk_at "ix")) ev_int (by walk_at "key")).cast (fulls_get _ k)) ev_int (by walk_at "op")) (ev_var 2 rfl) (ev_ix (ev_var 3 rfl) (ev_var 1 rfl) (by walk_at "ix")) (by walk_at "m") (by walk_at "w") hlen ?_)
      refine sws_nil ⟨?_, _, rfl⟩
      rw [um_um, take_snoc hki, fulls_snoc]
    · rintro M' δ' ⟨rfl, o, rfl⟩
      refine sws_cons (sw_ret (EW.to (ev_var 2 rfl) ?_))
      have e : ks.take rs.length = ks := by rw [hk.len, List.take_length]
      rw [e]
      exact hΦ p ((hfr p).mpr hp2) hp1
def S_count_of : FSp := PureS fun _ ds d => ∃ (rs : List D) (ls rr : List Int), ds = [.lst rs] ∧ Keyed 0 rs ls ∧ Keyed 1 rs rr ∧ rs.length ≤ 1000 ∧ d = .int (cntOf ls rr : Nat)
theorem ok_count_of (F : FdOk K mg "count_of" ["rows"] s_count_of) (G_fulls : OkF P w K mg base "fulls" ["rows", "side"] 1 S_fulls)
    (n_max : mg "max" = none) (n_list : mg "list" = none) : OkF P w K mg base "count_of" ["rows"] 2 S_count_of := by
  refine fnO F sc_count_of (fun own fr M ds Φ Ψ h => ?_) (fun f cdv A outer s H E hr b M ds Φ Ψ fr hfr h => ?_)
  · obtain ⟨d, ⟨rs, ls, rr, rfl, _⟩, _⟩ := h
    rfl
  · obtain ⟨d, ⟨rs, ls, rr, rfl, h1, h2, hl, rfl⟩, hΦ⟩ := h
    obtain ⟨ns, en, m1, m2⟩ := cnt_max ls rr
    refine sws_cons (sw_ret (EW.less (ew_cb rfl n_max b_max (ews_cons (ew_bin (ew_bin (EW.to (ev_lst (evs_cons ev_int evs_nil)) (ew_listVals rfl rfl n_list (ew_callO G_fulls hr rfl (EWs.to (evs_cons (ev_var 0 rfl) (evs_cons ev_int evs_nil)) ?_))))))))))
    refine ⟨fun _ => False, fun _ z => z.elim, fun fr' hf => ⟨rs, ls, 0, rfl, h1, hl, fun p hp hm => ?_⟩⟩
    have l1 := fulls_len ls
    have l2 := fulls_len rr
    have k1 := h1.len
    have k2 := h2.len
    refine ⟨p, _, rfl, .i (.inl um_same), (o_cat .l .l (by simp; omega)).imp ?_⟩
    rintro M1 d1 ⟨rfl, rfl⟩
    refine ew_listVals rfl rfl n_list (ew_callO G_fulls hr rfl (EWs.to (evs_cons (ev_var 0 rfl) (evs_cons ev_int evs_nil)) ?_))
    refine ⟨fun _ => False, fun _ z => z.elim, fun fr'' hf' => ⟨rs, rr, 1, rfl, h2, hl, fun q hq hm' => ?_⟩⟩
    refine ⟨q, _, rfl, .i (.inl um_same), (o_cat .l .l (by simp; omega)).imp ?_⟩
    rintro M2 d2 ⟨rfl, rfl⟩
    refine ews_nil ?_
    rw [en]
    exact (c_max rfl m1 m2).imp fun M3 d3 ⟨e1, e2⟩ => by
      subst e1; subst e2
      exact ⟨M, (Sub.um hm).trans (Sub.um hm'), hΦ⟩
/-! the making, put, come, count -/
theorem hm_ne {M : Mp} {C h dx p : Addr} {fs : List (Str × D)} {kvs : List (Int × D)} (h1 : M h = some (.ins C dx fs)) (h2 : M p = some (.dI kvs)) : h ≠ p := ne_cell h1 h2 (fun e => by cases e)
def S_init (C : Addr) (er : Er → Addr) : FSp := fun own fr M ds Φ Ψ => ∃ (h dx : Addr) (x y : D) (tx ty : String), ds = [.loc (.ref h), x, y] ∧ M h = some (.ins C dx []) ∧ own h ∧ TyD M x tx ∧ TyD M y ty ∧
  ((amongB x 1 8 && amongB y 1 8) = true → ∀ a b, x = .int a → y = .int b → ∀ q, fr q → M q = none → Φ (um (um M h (.ins C dx (hallF q a b 0))) q (.dI [])) .non) ∧ ((amongB x 1 8 && amongB y 1 8) = false → Ψ (.ref (er .count)) M)
theorem among_int {x : D} {lo hi : Int} (h : amongB x lo hi = true) : ∃ i, x = .int i ∧ lo ≤ i ∧ i ≤ hi := by
  cases x with
  | int i =>
    have : (decide (lo ≤ i) && decide (i ≤ hi)) = true := h
    simp only [Bool.and_eq_true, decide_eq_true_eq] at this
    exact ⟨i, rfl, this⟩
  | _ => cases h
theorem ok_init {C : Addr} {er : Er → Addr} (F : FdM K C "__init__" "Hall.__init__" ["self", "lefts", "rights"] s_Hall___init) (T : HallT K mg C) (G_is_among : OkF P w K mg base "is_among" ["thing", "least", "most"] 1 S_is_among)
    (g_ME : ∃ t, mg "MOST_ENDS" = some (.int 8 t)) (X_count : XcF K mg "BadCount" (er .count)) : OkM P w K mg base C "__init__" ["self", "lefts", "rights"] 2 (S_init C er) := by
  obtain ⟨tME, g_ME⟩ := g_ME
  refine fnM F sc_Hall___init (fun own fr M ds Φ Ψ h => ?_) (fun f cdv A outer s H E hr b M ds Φ Ψ fr hfr h => ?_)
  · obtain ⟨h, dx, x, y, tx, ty, rfl, _⟩ := h
    rfl
  · obtain ⟨h, dx, x, y, tx, ty, rfl, hm, hown, htx, hty, hy, hn⟩ := h
    have ND := sc_Hall___init.nd
    refine sws_cons (sw_if (TW.to (c := !(amongB x 1 8 && amongB y 1 8)) (tv_pw (TVW.cast (tvw_or (tv_not (tv_val (ev_callO G_is_among hr rfl (evs_cons (ev_var 1 rfl) (evs_cons ev_int (evs_cons (ev_glob (v := .int 8) rfl g_ME ⟨tME, rfl⟩ fun _ => Rep.int_iff.mpr rfl) evs_nil))) ⟨x, tx, 1, 8, rfl, htx, rfl⟩))) fun _ => (tvw_or1 (tv_not (tv_val (ev_callO G_is_among hr rfl (evs_cons (ev_var 2 rfl) (evs_cons ev_int (evs_cons (ev_glob (v := .int 8) rfl g_ME ⟨tME, rfl⟩ fun _ => Rep.int_iff.mpr rfl) evs_nil))) ⟨y, ty, 1, 8, rfl, hty, rfl⟩))))) (by cases amongB x 1 8 <;> rfl))) ⟨fun hc => ?_, fun hc => sws_nil ?_⟩))
    · refine sws_cons (sw_raise X_count rfl rfl (hn ?_))
      cases e : (amongB x 1 8 && amongB y 1 8) with
      | true => rw [e] at hc; cases hc
      | false => rfl
    · have hok : (amongB x 1 8 && amongB y 1 8) = true := by
        cases e : (amongB x 1 8 && amongB y 1 8) with
        | true => rfl
        | false => rw [e] at hc; cases hc
      have hy := hy hok
      rw [Bool.and_eq_true] at hok
      obtain ⟨a, rfl, _, _⟩ := among_int hok.1
      obtain ⟨b', rfl, _, _⟩ := among_int hok.2
      have hw : Wr b h := .inr hown
      refine sws_cons (sw_fld (x := "sizes") (EW.to (ev_tup (evs_cons (ev_var 1 rfl) (evs_cons (ev_var 2 rfl) evs_nil))) ⟨(ev_var 0 rfl), _, hm, by decide, ?_⟩) hw T.cl T.n_sizes)
      refine sws_cons (sw_fld (x := "rows") (ew_dictI fun q hq1 hq2 => ⟨(ev_var 0 rfl), _, by rw [um_ne (show h ≠ q from fun e => by rw [← e, um_same] at hq1; cases hq1), um_same], by show 1 < 1000; decide, ?_⟩) hw T.cl T.n_rows)
      have hqh : q ≠ h := fun e => by rw [e, um_same] at hq1; cases hq1
      have hqM : M q = none := by rw [um_ne hqh] at hq1; exact hq1
      refine sws_cons (sw_fld (x := "came") (EW.to ev_int ⟨(ev_var 0 rfl), _, um_same, by rw [show putFD "rows" (.loc (.ref q)) (putFD "sizes" (.tup [.int a, .int b']) []) = ([("sizes", .tup [.int a, .int b']), ("rows", .loc (.ref q))] : List (Str × D)) from (by show putFD "rows" (.loc (.ref q)) ([("sizes", .tup [.int a, .int b'])] : List (Str × D)) = _; rw [putFD_ne ne_sr]; rfl)]; show 2 < 1000; decide, ?_⟩) hw T.cl T.n_came)
      refine sws_nil ?_
      have := hy a b' rfl rfl q ((hfr q).mpr hq2) hqM
      rw [hall_new, um_um, um_comm hqh, um_um]
      exact this
def P_count (C : Addr) : Mp → List D → D → Prop := fun M ds d => ∃ (h dx p : Addr) (a b came : Int) (rs : Rows), ds = [.loc (.ref h)] ∧ M h = some (.ins C dx (hallF p a b came)) ∧ M p = some (.dI (encR rs)) ∧ rs.length ≤ 1000 ∧ d = .int (cntR (rs.map (·.2)) : Nat)
def S_count (C : Addr) : FSp := PureS (P_count C)
theorem encR_vals (rs : Rows) : (encR rs).map (·.2) = encs (rs.map (·.2)) := by unfold encR encs; rw [List.map_map, List.map_map]; rfl
theorem ok_count {C : Addr} (F : FdM K C "count" "Hall.count" ["self"] s_Hall_count) (T : HallT K mg C) (G_count_of : OkF P w K mg base "count_of" ["rows"] 2 S_count_of) (n_list : mg "list" = none) : OkM P w K mg base C "count" ["self"] 3 (S_count C) := by
  refine fnM F sc_Hall_count (fun own fr M ds Φ Ψ h => ?_) (fun f cdv A outer s H E hr b M ds Φ Ψ fr hfr h => ?_)
  · obtain ⟨_, ⟨h, dx, p, a, b, came, rs, rfl, _⟩, _⟩ := h
    rfl
  · obtain ⟨_, ⟨h, dx, p, a, b', came, rs, rfl, hm, hp, hl, rfl⟩, hΦ⟩ := h
    refine sws_cons (sw_ret (EW.to (ev_callO G_count_of hr rfl (evs_cons (ev_listVals rfl rfl n_list (ev_fld (ev_var 0 rfl) hm T.cl T.n_rows (hall_rows _ _ _ _)) (.i (.inl hp))) evs_nil) ⟨_, List.map (endOf 0) (List.map (fun x : Int × Row => x.2) rs), List.map (endOf 1) (List.map (fun x : Int × Row => x.2) rs), rfl, ?_, ?_, ?_, rfl⟩) hΦ))
    · rw [encR_vals]; exact keyed 0 (by decide) _
    · rw [encR_vals]; exact keyed 1 (by decide) _
    · rw [List.length_map, encR_len]; exact hl
def S_put (C : Addr) : FSp := fun own fr M ds Φ _ => ∃ (h dx p : Addr) (a b came n l r : Int) (many : Nat) (rs : Rows), ds = [.loc (.ref h), .int n, .int l, .int r, .int (many : Nat)] ∧ M h = some (.ins C dx (hallF p a b came)) ∧ M p = some (.dI (encR rs)) ∧ own h ∧ rs.length ≤ 100 ∧ (keys rs).Nodup ∧ Proper rs ∧ many ≤ 100 ∧ free rs 0 l many ≠ [] ∧ free rs 1 r many ≠ [] ∧ (given rs l r many).rows.length ≤ 100 ∧
  ∀ q nq, fr q → fr nq → M q = none → M nq = none → q ≠ nq → Φ (um (um (um M h (.ins C dx (hallF q a b came))) q (.dI (encR (put (given rs l r many).rows n (l, r, (given rs l r many).hue))))) nq (.lst ((given rs l r many).ns.map D.int))) (.tup [.int n, .int (given rs l r many).hue, gD (given rs l r many).other, .loc (.ref nq)])
theorem ok_put {C : Addr} (F : FdM K C "put" "Hall.put" ["self", "number", "left", "right", "many"] s_Hall_put) (T : HallT K mg C) (G_hue_given : OkF P w K mg base "hue_given" ["rows", "ends", "many"] 4 S_hue_given) (n_list : mg "list" = none) (n_dict : mg "dict" = none) : OkM P w K mg base C "put" ["self", "number", "left", "right", "many"] 5 (S_put C) := by
  refine fnM F sc_Hall_put (fun own fr M ds Φ Ψ h => ?_) (fun f cdv A outer s H E hr b M ds Φ Ψ fr hfr h => ?_)
  · obtain ⟨h, dx, p, a, b, came, n, l, r, many, rs, rfl, _⟩ := h
    rfl
  · obtain ⟨h, dx, p, a, b', came, n, l, r, many, rs, rfl, hm, hp, hown, hl, hn, hP, hmany, hf0, hf1, hgl, hΦ⟩ := h
    have ND := sc_Hall_put.nd
    have hu := hu_of hr
    have hw : Wr b h := .inr hown
    refine sws_cons (sw_asg (ew_callO G_hue_given hr rfl (EWs.to (evs_cons (ev_fld (ev_var 0 rfl) hm T.cl T.n_rows (hall_rows _ _ _ _)) (evs_cons (ev_tup (evs_cons (ev_var 2 rfl) (evs_cons (ev_var 3 rfl) evs_nil))) (evs_cons (ev_var 4 rfl) evs_nil))) (CallS.of fun fr' hf => ⟨p, rs, l, r, many, rfl, hp, hl, hn, hP, hmany, hf0, hf1, fun q0 M' hq0 hor => ?_⟩))))
    generalize given rs l r many = g at hΦ hgl hq0 hor
    refine gw_tup rfl (gws_cons (gw_name 5 (gws_cons (gw_name 6 (gws_cons (gw_name 7 (gws_cons (gw_name 8 (gws_nil ?_) ND)) ND)) ND)) ND))
    have hsub : Sub M M' := by
      rcases hor with ⟨_, rfl⟩ | ⟨_, h2, rfl⟩
      · exact .refl
      · exact Sub.um h2
    have hm' : M' h = some (.ins C dx (hallF p a b' came)) := hsub _ _ hm
    refine sws_cons (sw_fld (x := "rows") (ew_ct rfl n_dict b_dict (EWs.to (evs_cons (ev_var 8 rfl) evs_nil) (c_dict (.inl hq0) fun q hq1 hq2 => ⟨(ev_var 0 rfl), _, um_old hm' hq1, by show 3 < 1000; decide, ?_⟩))) hw T.cl T.n_rows)
    have hqh : q ≠ h := fun e => by rw [e, hm'] at hq1; cases hq1
    rw [hall_put_rows]
    refine sws_cons (sw_dput (d := .tup (enc3 (l, r, g.hue))) hu (ev_tup (evs_cons (ev_var 2 rfl) (evs_cons (ev_var 3 rfl) (evs_cons (ev_var 5 rfl) evs_nil)))) (ev_fld (ev_var 0 rfl) um_same T.cl T.n_rows (hall_rows _ _ _ _)) (ev_var 1 rfl) (by rw [um_ne hqh, um_same]) (.inl hq2) (by rw [encR_len]; omega) ?_)
    refine sws_cons (sw_ret (EW.less (ew_tup (ews_cons (EW.to (ev_var 1 rfl) (ews_cons (EW.to (ev_var 5 rfl) (ews_cons (EW.to (ev_var 6 rfl) (ews_cons (ew_ct rfl n_list b_list (EWs.to (evs_cons (ev_var 7 rfl) evs_nil) (c_list_lstN fun nq hn1 hn2 => ews_nil ⟨by show 4 ≤ 1000; decide, ?_⟩)))))))))))))
    have hnq : nq ≠ q := fun e => by rw [e, um_same] at hn1; cases hn1
    have hn1' := hn1
    rw [um_ne hnq] at hn1'
    have hnh : nq ≠ h := fun e => by rw [e, um_same] at hn1'; cases hn1'
    rw [um_ne hnh, um_ne hnq] at hn1'
    have hMn : ∀ x, M' x = none → M x = none := fun x e => by
      cases hx : M x with
      | none => rfl
      | some c => rw [hsub _ _ hx] at e; cases e
    refine ⟨_, ?_, hΦ q nq ((hfr q).mpr hq2) ((hfr nq).mpr hn2) (hMn q hq1) (hMn nq hn1') (Ne.symm hnq)⟩
    rw [putD_encR]
    intro x c ex
    by_cases e1 : x = nq
    · subst e1; rw [um_same] at ex ⊢; exact ex
    · rw [um_ne e1] at ex ⊢
      by_cases e2 : x = q
      · subst e2; rw [um_same] at ex ⊢; exact ex
      · rw [um_ne e2] at ex ⊢
        by_cases e3 : x = h
        · subst e3; rw [um_same] at ex ⊢; exact ex
        · rw [um_ne e3] at ex ⊢
          rw [um_ne e2]
          exact hsub _ _ ex
end
end Ph
end

section
set_option maxHeartbeats 1000000
/-! M6: a pair goes. Plain mathematics. -/
namespace Ph
open PySem L2 D4 K8
def dropR (rs : Rows) (n : Int) : Rows := rs.filter fun x => decide (x.1 ≠ n)
theorem dropD_encR (rs : Rows) (n : Int) : dropD (encR rs) n = encR (dropR rs n) := by
  unfold dropD encR dropR
  rw [List.filter_map]
  rfl
theorem dropR_mem {rs : Rows} {n : Int} {x : Int × Row} : x ∈ dropR rs n ↔ x ∈ rs ∧ x.1 ≠ n := by
  unfold dropR
  rw [List.mem_filter, decide_eq_true_eq]
theorem dropR_key {rs : Rows} {n m : Int} : m ∈ keys (dropR rs n) ↔ m ∈ keys rs ∧ m ≠ n := by
  unfold keys
  rw [List.mem_map, List.mem_map]
  constructor
  · rintro ⟨x, hx, rfl⟩
    have := dropR_mem.mp hx
    exact ⟨⟨x, this.1, rfl⟩, this.2⟩
  · rintro ⟨⟨x, hx, rfl⟩, h⟩
    exact ⟨x, dropR_mem.mpr ⟨hx, h⟩, rfl⟩
theorem dropR_nd {rs : Rows} (hn : (keys rs).Nodup) (n : Int) : (keys (dropR rs n)).Nodup := by
  unfold keys dropR
  exact (List.Sublist.map _ List.filter_sublist).nodup hn
theorem dropR_proper {rs : Rows} (P : Proper rs) (n : Int) : Proper (dropR rs n) := fun x hx y hy => P x (dropR_mem.mp hx).1 y (dropR_mem.mp hy).1
theorem dropR_perm : ∀ {rs : Rows}, (keys rs).Nodup → ∀ {n : Int} {r : Row}, (n, r) ∈ rs → rs.Perm ((n, r) :: dropR rs n)
  | [], _, n, r, h => by cases h
  | x :: rs, hn, n, r, h => by
    have hn' : (x.1 :: keys rs).Nodup := hn
    rw [List.nodup_cons] at hn'
    by_cases e : x.1 = n
    · have hx : x = (n, r) := by
        rcases List.mem_cons.mp h with h | h
        · exact h.symm
        · exact absurd (List.mem_map.mpr ⟨_, h, rfl⟩) (by rw [← e]; exact hn'.1)
      have : dropR (x :: rs) n = rs := by
        unfold dropR
        rw [List.filter_cons, if_neg (by simpa using e), List.filter_eq_self]
        intro y hy
        refine decide_eq_true fun e2 => hn'.1 ?_
        rw [e, ← e2]
        exact List.mem_map.mpr ⟨y, hy, rfl⟩
      rw [this, hx]
    · have hm : (n, r) ∈ rs := by
        rcases List.mem_cons.mp h with h | h
        · rw [← h] at e; exact absurd rfl e
        · exact h
      have : dropR (x :: rs) n = x :: dropR rs n := by
        unfold dropR
        rw [List.filter_cons, if_pos (by simpa using e)]
      rw [this]
      exact ((dropR_perm hn'.2 hm).cons x).trans (List.Perm.swap _ _ _)
theorem dropR_len {rs : Rows} (hn : (keys rs).Nodup) {n : Int} {r : Row} (h : (n, r) ∈ rs) : rs.length = (dropR rs n).length + 1 := by
  have := (dropR_perm hn h).length_eq
  rw [List.length_cons] at this
  exact this
theorem dropR_le (rs : Rows) (n : Int) : (dropR rs n).length ≤ rs.length := List.length_filter_le _ _
theorem dropR_ends {rs : Rows} (hn : (keys rs).Nodup) {n : Int} {r : Row} (h : (n, r) ∈ rs) (s : Nat) : (endsOf rs s).Perm (endOf s r :: endsOf (dropR rs n) s) := by
  unfold endsOf
  exact (dropR_perm hn h).map _
theorem rowOf_mem {rs : Rows} {n : Int} (h : n ∈ keys rs) : (n, rowOf rs n) ∈ rs := by
  obtain ⟨x, hx, rfl⟩ := List.mem_map.mp h
  unfold rowOf
  cases q : look rs x.1 with
  | none => exact absurd h (look_none.mp q)
  | some r => exact look_mem q
/-! ### the hue given, whatever hues the others have -/
structure GvG (rs : Rows) (l r : Int) (many : Nat) (g : Gv) : Prop where
  proper : Proper g.rows
  left : idx g.rows 0 l g.hue = none
  right : idx g.rows 1 r g.hue = none
  hue0 : 0 ≤ g.hue
  hue1 : g.hue < many
  keys : keys g.rows = keys rs
  ends : ∀ s, g.rows.map (fun x => endOf s x.2) = rs.map fun x => endOf s x.2
  hues : ∀ y ∈ g.rows, ∃ x ∈ rs, y.1 = x.1 ∧ (∀ s, endOf s y.2 = endOf s x.2) ∧ (y = x ∨ (0 ≤ hueOf x.2 ∧ hueOf x.2 < many ∧ 0 ≤ hueOf y.2 ∧ hueOf y.2 < many))
  turned : (g.other = none ∧ g.ns = [] ∧ g.rows = rs) ∨ ∃ o, g.other = some o ∧ 0 ≤ o ∧ o < many ∧ g.rows = turn rs g.ns g.hue o ∧ g.ns.Nodup ∧ ∀ n ∈ g.ns, ∃ x ∈ rs, x.1 = n ∧ (hueOf x.2 = g.hue ∨ hueOf x.2 = o)
theorem Path.side2 {rs : Rows} {x0 : Sx} {V : List Sx} {x : Sx} (p : Path rs x0 V x) (h0 : x0.s < 2) : ∀ y ∈ x :: V, (y.s = x0.s ∧ y.w = x0.w ∧ y.o = x0.o) ∨ (y.s = 1 - x0.s ∧ y.w = x0.o ∧ y.o = x0.w) := by
  induction p with
  | nil =>
    intro y hy
    rw [List.mem_singleton.mp hy]
    exact .inl ⟨rfl, rfl, rfl⟩
  | @cons V x y p hnx ih =>
    intro z hz
    rcases List.mem_cons.mp hz with e | hz
    · subst e
      unfold nextX at hnx
      rw [Option.map_eq_some_iff] at hnx
      obtain ⟨n, _, e⟩ := hnx
      subst e
      rcases ih x List.mem_cons_self with ⟨a1, a2, a3⟩ | ⟨a1, a2, a3⟩
      · exact .inr ⟨by show 1 - x.s = _; rw [a1], a3, a2⟩
      · exact .inl ⟨by show 1 - x.s = _; rw [a1]; omega, a3, a2⟩
    · exact ih z hz
theorem Ch.nd {rs : Rows} (P : Proper rs) (hn : (keys rs).Nodup) {ns : List Int} {s : Nat} {e w o : Int} (hc : Ch rs s e w o ns) (hs : s < 2) (hf : idx rs s e o = none) : ns.Nodup := by
  by_cases hwo : w = o
  · subst hwo
    cases hc with
    | stop => exact List.nodup_nil
    | step h _ => rw [hf] at h; cases h
  have key : ∀ {ns : List Int} {s1 : Nat} {e1 w1 o1 : Int}, Ch rs s1 e1 w1 o1 ns → ∀ {V : List Sx}, Path rs ⟨s, e, w, o⟩ V ⟨s1, e1, w1, o1⟩ → ns.Nodup ∧ ∀ n ∈ ns, ∀ y ∈ V, idx rs y.s y.e y.w ≠ some n := by
    intro ns s1 e1 w1 o1 hc
    induction hc with
    | stop h => exact fun p => ⟨List.nodup_nil, fun n hn => by cases hn⟩
    | @step s1 e1 w1 o1 n ns h t ih =>
      intro V p
      have hnx : nextX rs ⟨s1, e1, w1, o1⟩ = some ⟨1 - s1, endOf (1 - s1) (rowOf rs n), o1, w1⟩ := by
        unfold nextX; rw [h]; rfl
      have p' := Path.cons p hnx
      obtain ⟨ih1, ih2⟩ := ih p'
      have hfr := p.fresh P hn (show (⟨s, e, w, o⟩ : Sx).s < 2 from hs) hf
      refine ⟨List.nodup_cons.mpr ⟨fun hmem => ih2 n hmem _ List.mem_cons_self h, ih1⟩, fun m hm y hy hidx => ?_⟩
      rcases List.mem_cons.mp hm with e' | hm
      · subst e'
        have sx := p.side2 (show (⟨s, e, w, o⟩ : Sx).s < 2 from hs) _ List.mem_cons_self
        have sy := p.side2 (show (⟨s, e, w, o⟩ : Sx).s < 2 from hs) y (List.mem_cons_of_mem _ hy)
        obtain ⟨r1, q1, q2, q3⟩ := idx_some h
        obtain ⟨r2, q4, q5, q6⟩ := idx_some hidx
        have er : r1 = r2 := by
          have a1 := look_of hn q1
          rw [look_of hn q4] at a1
          exact (Option.some.inj a1).symm
        subst er
        have ew : w1 = y.w := q3.symm.trans q6
        have : (⟨s1, e1, w1, o1⟩ : Sx) = y := by
          obtain ⟨ys, ye, yw, yo⟩ := y
          simp only at sx sy q5 q6 ew
          subst ew
          have hss : s1 = ys ∧ o1 = yo := by
            rcases sx with ⟨a1, a2, a3⟩ | ⟨a1, a2, a3⟩ <;> rcases sy with ⟨b1, b2, b3⟩ | ⟨b1, b2, b3⟩
            · exact ⟨a1.trans b1.symm, a3.trans b3.symm⟩
            · exact absurd (a2.symm.trans b2) hwo
            · exact absurd (b2.symm.trans a2) hwo
            · exact ⟨a1.trans b1.symm, a3.trans b3.symm⟩
          obtain ⟨c1, c2⟩ := hss
          subst c1 c2
          rw [← q2, ← q5]
        exact hfr.1 (this ▸ hy)
      · exact ih2 m hm y (List.mem_cons_of_mem _ hy) hidx
  exact (key hc .nil).1
theorem given_gen {rs : Rows} {l r : Int} {many : Nat} (P : Proper rs) (hn : (keys rs).Nodup) (hl : (endsOf rs 0).count l < many) (hr : (endsOf rs 1).count r < many) : GvG rs l r many (given rs l r many) := by
  unfold given
  cases hb : both rs l r many with
  | cons h t =>
    have hm : h ∈ both rs l r many := by rw [hb]; exact List.mem_cons_self
    unfold both at hm
    rw [List.mem_filter, decide_eq_true_eq, mem_free, mem_free] at hm
    exact ⟨P, hm.1.2.2, hm.2.2.2, hm.1.1, hm.1.2.1, rfl, fun _ => rfl, fun y hy => ⟨y, hy, rfl, fun _ => rfl, .inl rfl⟩, .inl ⟨rfl, rfl, rfl⟩⟩
  | nil =>
    cases hw : ways rs l r many with
    | nil => exact absurd hw (ways_ne (free_ne hl) (free_ne hr))
    | cons w ws =>
      have hm := minW_mem w ws
      rw [← hw] at hm
      show GvG rs l r many ⟨(minW w ws).2.1, some (minW w ws).2.2.1, (minW w ws).2.2.2, turn rs (minW w ws).2.2.2 (minW w ws).2.1 (minW w ws).2.2.1⟩
      generalize minW w ws = m at hm ⊢
      obtain ⟨s, hs, hm⟩ := mem_ways hm
      obtain ⟨m1, m2, m3, m4⟩ := mem_waysS hm
      rw [mem_free] at m1 m2
      have hne : m.2.1 ≠ m.2.2.1 := fun e => by
        have h0 : m.2.1 ∈ both rs l r many := by
          unfold both
          rw [List.mem_filter, decide_eq_true_eq, mem_free, mem_free]
          rcases (show s = 0 ∨ s = 1 by omega) with rfl | rfl
          · exact ⟨m1, by rw [e]; exact m2⟩
          · exact ⟨by rw [e]; exact m2, m1⟩
        rw [hb] at h0
        cases h0
      have hs1 : 1 - s < 2 := by omega
      have hc := chain_ch P hn (w := m.2.1) hs1 m2.2.2
      rw [← m3] at hc
      have far := turn_far P hn hs1 hne m2.2.2 hc
      have near := turn_near P hn hs1 hne m2.2.2 hc (f := pick s l r) (by rw [show 1 - (1 - s) = s by omega]; exact m1.2.2)
      rw [show 1 - (1 - s) = s by omega] at near
      have hcm : ∀ n ∈ m.2.2.2, ∃ x ∈ rs, x.1 = n ∧ (hueOf x.2 = m.2.1 ∨ hueOf x.2 = m.2.2.1) := fun n hmn => by
        obtain ⟨x, hx, hh⟩ := hc.mem hn n hmn
        exact ⟨_, hx, rfl, hh⟩
      refine ⟨turn_proper P hn hs1 hne m2.2.2 hc, ?_, ?_, m1.1, m1.2.1, turn_keys _ _ _ _, fun s => turn_ends _ _ _ _ s, ?_, .inr ⟨m.2.2.1, rfl, m2.1, m2.2.1, rfl, hc.nd P hn hs1 m2.2.2, hcm⟩⟩
      · rcases (show s = 0 ∨ s = 1 by omega) with rfl | rfl
        · exact near
        · exact far
      · rcases (show s = 0 ∨ s = 1 by omega) with rfl | rfl
        · exact far
        · exact near
      · intro y hy
        obtain ⟨x, hx, x1, x2, x3, x4⟩ := turn_mem hy
        refine ⟨x, hx, x1, x2, ?_⟩
        by_cases c : x.1 ∈ m.2.2.2
        · obtain ⟨x', hx', e1, hh⟩ := hcm _ c
          have ex : x' = x := by
            have a1 := look_of hn (show (x.1, x'.2) ∈ rs by rw [← e1]; exact hx')
            rw [look_of hn (show (x.1, x.2) ∈ rs from hx)] at a1
            obtain ⟨p, q⟩ := x
            obtain ⟨p', q'⟩ := x'
            simp only at e1
            have a2 : q = q' := Option.some.inj a1
            rw [e1, a2]
          subst ex
          refine .inr ?_
          rw [x3 c]
          have h2 : 0 ≤ hueOf (flip m.2.1 m.2.2.1 x'.2) ∧ hueOf (flip m.2.1 m.2.2.1 x'.2) < (many : Int) := by
            show 0 ≤ (if hueOf x'.2 = m.2.2.1 then m.2.1 else m.2.2.1) ∧ (if hueOf x'.2 = m.2.2.1 then m.2.1 else m.2.2.1) < (many : Int)
            split
            · exact ⟨m1.1, m1.2.1⟩
            · exact ⟨m2.1, m2.2.1⟩
          rcases hh with hh | hh
          · rw [hh]; exact ⟨m1.1, m1.2.1, h2.1, h2.2⟩
          · rw [hh]; exact ⟨m2.1, m2.2.1, h2.1, h2.2⟩
        · exact .inl (x4 c)
/-! ### one that waits gets a hue -/
def stepG (many : Nat) (rs : Rows) (n : Int) : Gv := given (dropR rs n) (rowOf rs n).1 (rowOf rs n).2.1 many
def stepR (many : Nat) (rs : Rows) (n : Int) : Rows := put (stepG many rs n).rows n ((rowOf rs n).1, (rowOf rs n).2.1, (stepG many rs n).hue)
/-- from base by giving hues; W still wait -/
structure GI (many : Nat) (base cur : Rows) (W : List Int) : Prop where
  proper : Proper cur
  nd : (keys cur).Nodup
  ks : ∀ n, n ∈ keys cur ↔ n ∈ keys base
  len : cur.length = base.length
  cnt : ∀ s, (endsOf cur s).Perm (endsOf base s)
  hue : ∀ x ∈ cur, 0 ≤ hueOf x.2 ∧ ((many : Int) ≤ hueOf x.2 ↔ x.1 ∈ W)
  ends : ∀ x ∈ cur, ∃ y ∈ base, y.1 = x.1 ∧ ∀ s, endOf s x.2 = endOf s y.2
section
variable {many : Nat} {base cur : Rows} {W : List Int} {n : Int}
theorem step_pre (G : GI many base cur W) (hb : ∀ s, s < 2 → ∀ e, (endsOf base s).count e ≤ many) (hk : n ∈ keys cur) : Proper (dropR cur n) ∧ (keys (dropR cur n)).Nodup ∧ (endsOf (dropR cur n) 0).count (rowOf cur n).1 < many ∧ (endsOf (dropR cur n) 1).count (rowOf cur n).2.1 < many ∧ (dropR cur n).length + 1 = cur.length := by
  have hm := rowOf_mem hk
  have c : ∀ s, s < 2 → (endsOf (dropR cur n) s).count (endOf s (rowOf cur n)) < many := fun s hs => by
    have h1 := (dropR_ends G.nd hm s).count_eq (endOf s (rowOf cur n))
    have h2 := (G.cnt s).count_eq (endOf s (rowOf cur n))
    have h3 := hb s hs (endOf s (rowOf cur n))
    rw [List.count_cons_self] at h1
    omega
  exact ⟨dropR_proper G.proper n, dropR_nd G.nd n, c 0 (by decide), c 1 (by decide), (dropR_len G.nd hm).symm⟩
theorem step_given (G : GI many base cur W) (hb : ∀ s, s < 2 → ∀ e, (endsOf base s).count e ≤ many) (hk : n ∈ keys cur) : GvG (dropR cur n) (rowOf cur n).1 (rowOf cur n).2.1 many (stepG many cur n) := by
  obtain ⟨p1, p2, p3, p4, _⟩ := step_pre G hb hk
  exact given_gen p1 p2 p3 p4
theorem stepR_eq (G : GI many base cur W) (hb : ∀ s, s < 2 → ∀ e, (endsOf base s).count e ≤ many) (hk : n ∈ keys cur) : stepR many cur n = (stepG many cur n).rows ++ [(n, (rowOf cur n).1, (rowOf cur n).2.1, (stepG many cur n).hue)] := by
  unfold stepR
  refine put_new ?_
  rw [(step_given G hb hk).keys, dropR_key]
  exact fun h => h.2 rfl
theorem step_gi (G : GI many base cur (n :: W)) (hnd : (n :: W).Nodup) (hb : ∀ s, s < 2 → ∀ e, (endsOf base s).count e ≤ many) (hk : n ∈ keys cur) : GI many base (stepR many cur n) W := by
  have g := step_given G hb hk
  have e := stepR_eq G hb hk
  have hm := rowOf_mem hk
  have ek : keys (stepR many cur n) = keys (dropR cur n) ++ [n] := by
    rw [e]; unfold keys; rw [List.map_append]
    show keys (stepG many cur n).rows ++ [n] = _
    rw [g.keys]; rfl
  have hnW : n ∉ W := (List.nodup_cons.mp hnd).1
  refine ⟨?_, ?_, ?_, ?_, ?_, ?_, ?_⟩
  · rw [e]; exact proper_snoc g.proper g.left g.right
  · rw [ek, List.nodup_append]
    refine ⟨dropR_nd G.nd n, by simp, fun a ha b hb' => ?_⟩
    rw [List.mem_singleton.mp hb']
    exact (dropR_key.mp ha).2
  · intro m
    rw [ek, List.mem_append, List.mem_singleton, dropR_key, ← G.ks]
    constructor
    · rintro (h | h)
      · exact h.1
      · rw [h]; exact hk
    · intro h
      by_cases c : m = n
      · exact .inr c
      · exact .inl ⟨h, c⟩
  · rw [← keys_len, ek, List.length_append, keys_len, ← G.len, dropR_len G.nd hm]; rfl
  · intro s
    have h1 : endsOf (stepR many cur n) s = endsOf (dropR cur n) s ++ [endOf s (rowOf cur n)] := by
      rw [e]; unfold endsOf; rw [List.map_append]
      have := g.ends s
      rw [this]
      congr 1
    rw [h1]
    refine List.Perm.trans ?_ ((dropR_ends G.nd hm s).symm.trans (G.cnt s))
    exact List.perm_append_comm
  · intro x hx
    rw [e] at hx
    rcases List.mem_append.mp hx with hx | hx
    · obtain ⟨y, hy, h1, h2, h3⟩ := g.hues x hx
      have hy' := dropR_mem.mp hy
      have hc := G.hue y hy'.1
      have hyn : y.1 ≠ n := hy'.2
      rcases h3 with h3 | h3
      · rw [h3]
        refine ⟨hc.1, hc.2.trans ?_⟩
        rw [List.mem_cons]
        exact ⟨fun h => h.resolve_left hyn, .inr⟩
      · refine ⟨h3.2.2.1, fun h => absurd h (by omega), fun h => ?_⟩
        rw [h1] at h
        have := hc.2.mpr (List.mem_cons_of_mem _ h)
        omega
    · rw [List.mem_singleton.mp hx]
      refine ⟨g.hue0, fun h => ?_, fun h => absurd h hnW⟩
      have h : (many : Int) ≤ (stepG many cur n).hue := h
      have := g.hue1
      omega
  · intro x hx
    rw [e] at hx
    rcases List.mem_append.mp hx with hx | hx
    · obtain ⟨y, hy, h1, h2, h3⟩ := g.hues x hx
      obtain ⟨z, hz, h4, h5⟩ := G.ends y (dropR_mem.mp hy).1
      exact ⟨z, hz, h4.trans h1.symm, fun s => (h2 s).trans (h5 s)⟩
    · rw [List.mem_singleton.mp hx]
      obtain ⟨z, hz, h4, h5⟩ := G.ends _ hm
      exact ⟨z, hz, h4, fun s => h5 s⟩
end
/-! ### all that wait, one by one -/
abbrev Gs := Rows × List (Int × Gv)
def goStep (many : Nat) (s : Gs) (n : Int) : Gs := (stepR many s.1 n, s.2 ++ [(n, stepG many s.1 n)])
def goS (many : Nat) (rs : Rows) (ns : List Int) : Gs := ns.foldl (goStep many) (rs, [])
theorem goS_snoc (many : Nat) (rs : Rows) (ns : List Int) (n : Int) : goS many rs (ns ++ [n]) = goStep many (goS many rs ns) n := by
  unfold goS; rw [List.foldl_append]; rfl
theorem goS_len (many : Nat) (rs : Rows) (ns : List Int) : (goS many rs ns).2.length = ns.length := by
  have : ∀ (s : Gs), (ns.foldl (goStep many) s).2.length = s.2.length + ns.length := by
    induction ns with
    | nil => intro s; rfl
    | cons n ns ih =>
      intro s
      rw [List.foldl_cons, ih]
      show (s.2 ++ [_]).length + ns.length = _
      rw [List.length_append, List.length_cons]
      show s.2.length + 1 + ns.length = s.2.length + (ns.length + 1)
      omega
  have h := this (rs, [])
  rw [show (([] : List (Int × Gv)).length) = 0 from rfl, Nat.zero_add] at h
  exact h
theorem goS_gi {many : Nat} {base : Rows} (hb : ∀ s, s < 2 → ∀ e, (endsOf base s).count e ≤ many) {due : List Int} (G : GI many base base due) (hnd : due.Nodup) (hk : ∀ n ∈ due, n ∈ keys base) : ∀ P R : List Int, due = P ++ R → GI many base (goS many base P).1 R := by
  intro P
  induction hP : P.length generalizing P with
  | zero =>
    intro R e
    have : P = [] := List.length_eq_zero_iff.mp hP
    subst this
    rw [List.nil_append] at e
    subst e
    exact G
  | succ k ih =>
    intro R e
    rcases List.eq_nil_or_concat P with h | ⟨Q, n, h⟩
    · subst h; cases hP
    · rw [List.concat_eq_append] at h
      subst h
      rw [List.append_assoc] at e
      rw [goS_snoc]
      have hQ : Q.length = k := by rw [List.length_append] at hP; simpa using hP
      have g := ih Q hQ (n :: R) e
      have hnd2 : (n :: R).Nodup := by rw [e] at hnd; exact (List.nodup_append.mp hnd).2.1
      exact step_gi g hnd2 hb ((g.ks n).mpr (hk n (by rw [e]; simp)))
def isDue (many : Nat) (rs : Rows) (n : Int) : Bool := decide ((many : Int) ≤ hueOf (rowOf rs n))
def dueL (many : Nat) (rs : Rows) : List Int := (sortK (keys rs)).filter (isDue many rs)
theorem sortK_nd {ks : List Int} (h : ks.Nodup) : (sortK ks).Nodup := (sortK_perm ks).nodup_iff.mpr h
theorem mem_due {many : Nat} {rs : Rows} {n : Int} : n ∈ dueL many rs ↔ n ∈ keys rs ∧ (many : Int) ≤ hueOf (rowOf rs n) := by
  unfold dueL isDue
  rw [List.mem_filter, mem_sortK, decide_eq_true_eq]
theorem gi_start {many : Nat} {base : Rows} (P : Proper base) (hn : (keys base).Nodup) (h0 : ∀ x ∈ base, 0 ≤ hueOf x.2) : GI many base base (dueL many base) :=
  ⟨P, hn, fun _ => Iff.rfl, rfl, fun _ => List.Perm.refl _, fun x hx => ⟨h0 x hx, by
    rw [mem_due, rowOf_of hn (show (x.1, x.2) ∈ base from hx)]
    exact ⟨fun h => ⟨List.mem_map.mpr ⟨x, hx, rfl⟩, h⟩, fun h => h.2⟩⟩, fun x hx => ⟨x, hx, rfl, fun _ => rfl⟩⟩
/-- the count behind a pair's going -/
def goM (rs : Rows) (n : Int) : Nat := cntR ((dropR rs n).map (·.2))
def goF (rs : Rows) (n : Int) : Gs := goS (goM rs n) (dropR rs n) (dueL (goM rs n) (dropR rs n))
def goR (rs : Rows) (n : Int) : Rows := (goF rs n).1
def goT (rs : Rows) (n : Int) : List (Int × Gv) := (goF rs n).2
theorem deg_perm {ks ls : List Int} (h : ks.Perm ls) : deg ks = deg ls := by
  have key : ∀ {ks ls : List Int}, ks.Perm ls → deg ks ≤ deg ls := fun {ks ls} h => by
    rcases deg_mem ks with e | ⟨k, _, e⟩
    · rw [e]; exact Nat.zero_le _
    · rw [e, h.count_eq]; exact count_le_deg _ _
  exact Nat.le_antisymm (key h) (key h.symm)
theorem cnt_perm {rs qs : Rows} (h : ∀ s, (endsOf rs s).Perm (endsOf qs s)) : cntR (rs.map (·.2)) = cntR (qs.map (·.2)) := by
  rw [cntR_ends, cntR_ends]
  unfold cntOf
  rw [deg_perm (h 0), deg_perm (h 1)]
theorem cnt_ge (rs : Rows) (s : Nat) (hs : s < 2) (e : Int) : (endsOf rs s).count e ≤ cntR (rs.map (·.2)) := by
  rw [cntR_ends]
  unfold cntOf
  have := count_le_deg (endsOf rs s) e
  rcases (show s = 0 ∨ s = 1 by omega) with rfl | rfl <;> omega
section
variable {rs : Rows} {came n : Int}
theorem go_start (I : Inv rs came) : GI (goM rs n) (dropR rs n) (dropR rs n) (dueL (goM rs n) (dropR rs n)) :=
  gi_start (dropR_proper I.proper n) (dropR_nd I.nd n) fun x hx => (I.fit x (dropR_mem.mp hx).1).1
theorem due_nd (I : Inv rs came) : (dueL (goM rs n) (dropR rs n)).Nodup := List.filter_sublist.nodup (sortK_nd (dropR_nd I.nd n))
theorem go_at (I : Inv rs came) {P R : List Int} (e : dueL (goM rs n) (dropR rs n) = P ++ R) : GI (goM rs n) (dropR rs n) (goS (goM rs n) (dropR rs n) P).1 R :=
  goS_gi (fun s hs e => cnt_ge _ s hs e) (go_start I) (due_nd I) (fun m hm => (mem_due.mp hm).1) P R e
theorem go_end (I : Inv rs came) : GI (goM rs n) (dropR rs n) (goR rs n) [] := go_at I (List.append_nil _).symm
theorem inv_go (I : Inv rs came) : Inv (goR rs n) came := by
  have g := go_end (n := n) I
  have hc : cntR ((goR rs n).map (·.2)) = goM rs n := cnt_perm g.cnt
  have := I.len
  have := dropR_le rs n
  refine ⟨g.proper, g.nd, fun m hm => I.below m (dropR_key.mp ((g.ks m).mp hm)).1, fun x hx => ?_, by rw [g.len]; omega, I.c0⟩
  have h := g.hue x hx
  rw [hc]
  refine ⟨h.1, ?_⟩
  have : ¬ ((goM rs n : Nat) : Int) ≤ hueOf x.2 := fun q => by cases h.2.mp q
  omega
theorem goM_le (I : Inv rs came) : goM rs n ≤ 40 := by
  have h := cnt_le_len (endsOf (dropR rs n) 0) (endsOf (dropR rs n) 1) (by unfold endsOf; simp)
  unfold goM
  rw [cntR_ends]
  have h2 := dropR_le rs n
  have h3 := I.len
  have : (endsOf (dropR rs n) 0).length = (dropR rs n).length := List.length_map _
  omega
end
end Ph
end

section
set_option maxRecDepth 100000
set_option maxHeartbeats 4000000
/-! D5d: -e, x or y of lists, list(range(n)). -/
namespace D4
open PySem L2
section
variable {X : Cx} {b : Bs} {δ : Od} {M : Mp} {e e1 e2 : Expr} {es : List Expr} {pos p p2 p3 : Pos} {d : D} {xs : List D}
theorem ev_neg {i : Int} (h : EV X b δ M e (.int i)) : EV X b δ M (.UnaryOp .USub e pos) (.int (-i)) := fun R mR σ H Q S k kx => by
  refine we_of (pe_un un_neg pe_we) ?_
  refine h R mR σ H _ S (fun M1 d v H1 p1 S1 => ?_) .nx
  obtain ⟨rfl, rfl⟩ := p1
  obtain ⟨G, S1, z1, z2, z3⟩ := S1
  exact ⟨i, Rep.int_iff.mp z3, k _ _ _ _ ⟨rfl, rfl⟩ ⟨G, S1, z1, z2, Rep.int_iff.mpr rfl⟩⟩
theorem ev_orL {d' : D} (h1 : EV X b δ M e1 (.lst xs)) (h2 : xs = [] → EV X b δ M (.BoolOp .Or (e2 :: es) pos) d') (hd : xs ≠ [] → d' = .lst xs) : EV X b δ M (.BoolOp .Or (e1 :: e2 :: es) pos) d' := fun R mR σ H Q S k kx => by
  refine we_of (pe_orT pe_we pe_we) ?_
  refine h1 R mR σ H _ S (fun M1 d v H1 p1 S1 => ?_) .nx
  obtain ⟨rfl, rfl⟩ := p1
  have S1c := S1
  obtain ⟨G, S1, z1, z2, z3⟩ := S1
  obtain ⟨a, vs, rfl, ha, rs⟩ := Rep.lst_iff.mp z3
  refine ⟨!vs.isEmpty, .inl ⟨vs, SqL.of (S1.gh _ _ ha), rfl⟩, ?_⟩
  cases xs with
  | nil =>
    have := rs.nil_inv
    subst this
    rw [if_neg (by decide)]
    exact h2 rfl R mR σ H1 Q ⟨G, S1, z1, z2⟩ k kx
  | cons x xs =>
    obtain ⟨v, r, rfl, _, _⟩ := rs.cons_inv
    rw [if_pos (by rfl)]
    have := hd (by simp)
    subst this
    exact k _ _ _ _ ⟨rfl, rfl⟩ ⟨G, S1, z1, z2, z3⟩
theorem ev_listRg {n : Int} (hc : X.calm = true) (hg : Gl X "list") (hm : X.mg "list" = none) (hg2 : Gl X "range") (hm2 : X.mg "range" = none) (h : EV X b δ M e (.int n)) (h0 : 0 ≤ n) (h1 : n ≤ 100000) (na : starEach [e] X.env = (false, eval e X.env) :: starEach [] X.env := by exact D4.starEach_c rfl) : EV X b δ M (.Call (.Name "list" p) [.Call (.Name "range" p2) [e] [] p3] [] pos) (.lst ((List.range n.toNat).map fun i => .int (i : Nat))) := fun R mR σ H Q S k kx => by
  refine we_of (pe_listRg hc hg hm (prg_1 hg2 hm2 pe_we na)) ?_
  refine h R mR σ H _ S (fun M1 d v H1 p1 S1 => ?_) .nx
  obtain ⟨rfl, rfl⟩ := p1
  obtain ⟨G, S1, z1, z2, z3⟩ := S1
  refine ⟨n, Rep.int_iff.mp z3, RgOk.of_le (by omega) (by omega) (by omega) h0, fun q hq => ?_⟩
  obtain ⟨S2, sg⟩ := S1.frz hq (.lst (rgV 0 n))
  refine k _ _ _ _ ⟨rfl, rfl⟩ ⟨_, S2, Mono.env _ _ sg z1, mR _ _ sg z2, Rep.lst_iff.mpr ⟨q, _, rfl, upd_same, ?_⟩⟩
  have e1 : ((List.range n.toNat).map fun i => D.int (i : Nat)) = ((List.range n.toNat).map fun i : Nat => (i : Int)).map D.int := by rw [List.map_map]; rfl
  have e2 : rgV 0 n = ((List.range n.toNat).map fun i : Nat => (i : Int)).map V.int := by
    unfold rgV
    rw [List.map_map, Int.sub_zero]
    refine List.map_congr_left fun i _ => ?_
    show V.int (0 + (i : Nat)) = V.int (i : Nat)
    rw [Int.zero_add]
  rw [e1, e2]
  exact .of_ints _
end
theorem at_last (xs : List D) (d : D) : atI (xs ++ [d]) (-1) = some d := by
  unfold atI ixN
  have h : -(((xs ++ [d]).length : Nat) : Int) ≤ -1 := by rw [List.length_append]; simp; omega
  rw [if_neg (by decide), if_pos h]
  have e : ((-1 : Int) + ((xs ++ [d]).length : Nat)).toNat = xs.length := by rw [List.length_append]; simp; omega
  rw [e]
  simp
end D4
end

section
set_option maxRecDepth 100000
set_option maxHeartbeats 4000000
/-! D5e: methods as expressions of one value; lists that are cells, held. -/
namespace D4
open PySem L2
theorem LA.ty {M : Mp} {d : D} {xs : List D} (h : LA M d xs) : TyD M d "list" := by
  cases h with
  | l => exact .lst
  | c h => exact .cl h
theorem LA.da {M : Mp} {d : D} {xs : List D} (h : LA M d xs) : DA M d (.lst xs) := by
  cases h with
  | l => exact .f
  | c h => exact .c h
theorem LA.um {M : Mp} {d : D} {xs : List D} {p : Addr} {c : C} (h : LA M d xs) (hp : M p = none) : LA (um M p c) d xs := h.sub (Sub.um hp)
section
variable {X : Cx} {b : Bs} {δ : Od} {M : Mp} {e o : Expr} {es : List Expr} {Φ : Mp → D → Prop} {Ψ : Xs} {d : D} {ds xs : List D} {pos apos : Pos} {a C dx : Addr} {m : Str} {j l : Nat} {ps : List Str} {fs : List (Str × D)}
theorem ev_methO {P : Mp → List D → D → Prop} {pl : Sem Bool} (G : OkM X.prog X.w X.K X.mg X.base C m ps j (PureS P)) (c : Cls X.K C) (hr : Room l X.A) (h1 : EV X b δ M o (.loc (.ref a))) (hm : M a = some (.ins C dx fs)) (hl : lookF fs m = none) (h : EVs X b δ M (e :: es) ds) (hP : P M (.loc (.ref a) :: ds) d) (hj : j ≤ l := by decide)
    (hst : starEach (e :: es) X.env = (false, eval e X.env) :: starEach es X.env := by exact D4.starEach_c rfl) (hpl : (backTo pos (starEach es X.env)).any (·.1) = false := by exact D4.back_any rfl)
    (ht : eval (.Call (.Attribute o m apos) (e :: es) [] pos) X.env = (do
      let ov ← eval o X.env
      standAt apos.atName
      let (f, first) ← holding [ov] (getMethod ov m pl)
      callWith pos f first (backTo pos (starEach (e :: es) X.env)) (backToKw pos (keywordEach [] X.env))) := by rfl) : EV X b δ M (.Call (.Attribute o m apos) (e :: es) [] pos) d :=
  ew_methO G c hr h1 hm hl (h.to (CallS.pure hP ⟨rfl, rfl⟩)) hj hst hpl ht
theorem ev_methX {P : Mp → List D → D ⊕ Value → Prop} {pl : Sem Bool} (G : OkM X.prog X.w X.K X.mg X.base C m ps j (PureX P)) (c : Cls X.K C) (hr : Room l X.A) (h1 : EV X b δ M o (.loc (.ref a))) (hm : M a = some (.ins C dx fs)) (hl : lookF fs m = none) (h : EVs X b δ M (e :: es) ds) (hP : P M (.loc (.ref a) :: ds) (.inl d)) (hj : j ≤ l := by decide)
    (hst : starEach (e :: es) X.env = (false, eval e X.env) :: starEach es X.env := by exact D4.starEach_c rfl) (hpl : (backTo pos (starEach es X.env)).any (·.1) = false := by exact D4.back_any rfl)
    (ht : eval (.Call (.Attribute o m apos) (e :: es) [] pos) X.env = (do
      let ov ← eval o X.env
      standAt apos.atName
      let (f, first) ← holding [ov] (getMethod ov m pl)
      callWith pos f first (backTo pos (starEach (e :: es) X.env)) (backToKw pos (keywordEach [] X.env))) := by rfl) : EV X b δ M (.Call (.Attribute o m apos) (e :: es) [] pos) d :=
  ew_methO G c hr h1 hm hl (h.to (CallS.val hP ⟨rfl, rfl⟩)) hj hst hpl ht
theorem ev_methF {P : Mp → List D → List D → Prop} {pl : Sem Bool} (G : OkM X.prog X.w X.K X.mg X.base C m ps j (FreshS P)) (c : Cls X.K C) (hr : Room l X.A) (h1 : EV X b δ M o (.loc (.ref a))) (hm : M a = some (.ins C dx fs)) (hl : lookF fs m = none) (h : EVs X b δ M (e :: es) ds) (hP : P M (.loc (.ref a) :: ds) xs) (hj : j ≤ l := by decide)
    (hst : starEach (e :: es) X.env = (false, eval e X.env) :: starEach es X.env := by exact D4.starEach_c rfl) (hpl : (backTo pos (starEach es X.env)).any (·.1) = false := by exact D4.back_any rfl)
    (ht : eval (.Call (.Attribute o m apos) (e :: es) [] pos) X.env = (do
      let ov ← eval o X.env
      standAt apos.atName
      let (f, first) ← holding [ov] (getMethod ov m pl)
      callWith pos f first (backTo pos (starEach (e :: es) X.env)) (backToKw pos (keywordEach [] X.env))) := by rfl) : EV X b δ M (.Call (.Attribute o m apos) (e :: es) [] pos) (.lst xs) :=
  EW.frz (ew_methO G c hr h1 hm hl (h.to (.freshL hP ⟨rfl, rfl⟩)) hj hst hpl ht)
theorem ev_methO0 {P : Mp → List D → D → Prop} {pl : Sem Bool} (G : OkM X.prog X.w X.K X.mg X.base C m ps j (PureS P)) (c : Cls X.K C) (hr : Room l X.A) (h1 : EV X b δ M o (.loc (.ref a))) (hm : M a = some (.ins C dx fs)) (hl : lookF fs m = none) (hP : P M [.loc (.ref a)] d) (hj : j ≤ l := by decide)
    (ht : eval (.Call (.Attribute o m apos) [] [] pos) X.env = (do
      let ov ← eval o X.env
      standAt apos.atName
      let (f, first) ← holding [ov] (getMethod ov m pl)
      callWith pos f first (backTo pos (starEach [] X.env)) (backToKw pos (keywordEach [] X.env))) := by rfl) : EV X b δ M (.Call (.Attribute o m apos) [] [] pos) d :=
  ew_methO0 G c hr h1 hm hl (CallS.pure hP ⟨rfl, rfl⟩) hj ht
theorem ev_methF0 {P : Mp → List D → List D → Prop} {pl : Sem Bool} (G : OkM X.prog X.w X.K X.mg X.base C m ps j (FreshS P)) (c : Cls X.K C) (hr : Room l X.A) (h1 : EV X b δ M o (.loc (.ref a))) (hm : M a = some (.ins C dx fs)) (hl : lookF fs m = none) (hP : P M [.loc (.ref a)] xs) (hj : j ≤ l := by decide)
    (ht : eval (.Call (.Attribute o m apos) [] [] pos) X.env = (do
      let ov ← eval o X.env
      standAt apos.atName
      let (f, first) ← holding [ov] (getMethod ov m pl)
      callWith pos f first (backTo pos (starEach [] X.env)) (backToKw pos (keywordEach [] X.env))) := by rfl) : EV X b δ M (.Call (.Attribute o m apos) [] [] pos) (.lst xs) :=
  EW.frz (ew_methO0 G c hr h1 hm hl (.freshL hP ⟨rfl, rfl⟩) hj ht)
end
/-! ### lists that are held twice -/
abbrev HP := Addr × Addr
def heldD (p : HP) : D := .tup [.loc (.ref p.1), .loc (.ref p.2)]
/-- at hh stands a list of pairs of lists, each two alike -/
structure Held (M : Mp) (hh : Addr) (ps : List HP) : Prop where
  at_ : M hh = some (.lst (ps.map heldD))
  eq_ : ∀ p ∈ ps, p.1 ≠ hh ∧ p.2 ≠ hh ∧ ∃ L, M p.1 = some (.lst L) ∧ M p.2 = some (.lst L) ∧ Okd (.lst L)
theorem Held.keep {M M' : Mp} {hh : Addr} {ps : List HP} (h : Held M hh ps) (k : ∀ a L, M a = some (.lst L) → M' a = some (.lst L)) : Held M' hh ps :=
  ⟨k _ _ h.at_, fun p hp => let ⟨h1, h2, L, h3, h4, h5⟩ := h.eq_ p hp; ⟨h1, h2, L, k _ _ h3, k _ _ h4, h5⟩⟩
theorem Held.snoc {M : Mp} {hh : Addr} {ps : List HP} (h : Held M hh ps) {p : HP} {L : List D} (h1 : M p.1 = some (.lst L)) (h2 : M p.2 = some (.lst L)) (ok : Okd (.lst L)) (n1 : p.1 ≠ hh) (n2 : p.2 ≠ hh) : Held (um M hh (.lst (ps.map heldD ++ [heldD p]))) hh (ps ++ [p]) := by
  refine ⟨by rw [um_same, List.map_append]; rfl, fun q hq => ?_⟩
  rcases List.mem_append.mp hq with hq | hq
  · obtain ⟨a1, a2, L', a3, a4, a5⟩ := h.eq_ q hq
    exact ⟨a1, a2, L', by rw [um_ne a1]; exact a3, by rw [um_ne a2]; exact a4, a5⟩
  · rw [List.mem_singleton.mp hq]
    exact ⟨n1, n2, L, by rw [um_ne n1]; exact h1, by rw [um_ne n2]; exact h2, ok⟩
/-- both of the last two are made longer -/
theorem Held.both {M : Mp} {hh : Addr} {ps : List HP} {x y : Addr} (h : Held M hh (ps ++ [(x, y)])) (hn : ∀ q ∈ ps, q.1 ≠ x ∧ q.1 ≠ y ∧ q.2 ≠ x ∧ q.2 ≠ y) {L : List D} (ok : Okd (.lst L)) : Held (um (um M x (.lst L)) y (.lst L)) hh (ps ++ [(x, y)]) := by
  have hl := h.eq_ (x, y) (by simp)
  refine ⟨by rw [um_ne (Ne.symm hl.2.1), um_ne (Ne.symm hl.1)]; exact h.at_, fun q hq => ?_⟩
  rcases List.mem_append.mp hq with hq | hq
  · obtain ⟨a1, a2, L', a3, a4, a5⟩ := h.eq_ q (List.mem_append_left _ hq)
    obtain ⟨b1, b2, b3, b4⟩ := hn q hq
    exact ⟨a1, a2, L', by rw [um_ne b2, um_ne b1]; exact a3, by rw [um_ne b4, um_ne b3]; exact a4, a5⟩
  · rw [List.mem_singleton.mp hq]
    refine ⟨hl.1, hl.2.1, L, ?_, um_same, ok⟩
    by_cases e : x = y
    · show um (um M x (.lst L)) y (.lst L) x = _
      rw [e, um_same]
    · show um (um M x (.lst L)) y (.lst L) x = _
      rw [um_ne e, um_same]
theorem Okd.of_mem {L : List D} (h : Okd (.lst L)) : ∀ d ∈ L, okD d = true ∧ depD d ≤ 59 := by
  intro d hd
  have h1 : okDs L = true := h.1
  have h2 : depDs L + 1 ≤ 60 := h.2
  refine ⟨(okDs_iff L).mp h1 d hd, ?_⟩
  have : ∀ (L : List D), d ∈ L → depD d ≤ depDs L := by
    intro L
    induction L with
    | nil => intro h; cases h
    | cons x L ih =>
      intro h
      show depD d ≤ max (depD x) (depDs L)
      rcases List.mem_cons.mp h with e | h
      · rw [e]; omega
      · have := ih h; omega
  have := this L hd
  omega
theorem cutD_some (xs : List D) (lo hi : Nat) : cutD xs (some (lo : Int)) (some (hi : Int)) = (xs.drop lo).take (hi - lo) := by
  unfold cutD
  rw [HT.sIx_nat, HT.sIx_nat]
  by_cases h : lo ≤ xs.length
  · rw [Nat.min_eq_left h]
    by_cases h2 : hi ≤ xs.length
    · rw [Nat.min_eq_left h2]
    · have e1 : (xs.drop lo).length ≤ hi - lo := by rw [List.length_drop]; omega
      have e2 : (xs.drop lo).length ≤ min hi xs.length - lo := by rw [List.length_drop]; omega
      rw [List.take_of_length_le e1, List.take_of_length_le e2]
  · rw [Nat.min_eq_right (show xs.length ≤ lo by omega), List.drop_of_length_le (Nat.le_refl _), List.drop_of_length_le (show xs.length ≤ lo by omega), List.take_nil, List.take_nil]
theorem cutD_ints (ns : List Int) (lo hi : Nat) : cutD (ns.map D.int) (some (lo : Int)) (some (hi : Int)) = ((ns.drop lo).take (hi - lo)).map D.int := by
  rw [cutD_some, List.map_take, List.map_drop]
section
variable {X : Cx} {b : Bs} {δ : Od} {M : Mp} {e o : Expr} {es : List Expr} {st : Stmt} {sts : List Stmt} {E : DE} {Φ : Mp → D → Prop} {Ψ : Xs} {pos p : Pos} {x : Str} {C : Addr} {k l : Nat} {ps : List Str} {S : FSp}
theorem SW.nx (h : SW X b δ M st E) {J : Mp → Od → Prop} (f : ∀ M δ, E.nx M δ → J M δ) : SW X b δ M st { E with nx := J } := fun R mR σ H S kx =>
  (h R mR σ H S kx).mono (fun _ _ => concN.imp f) (fun _ _ q => q) (fun _ _ q => q) (fun _ _ q => q)
/-- what holds between two statements -/
theorem sws_mid (J : Mp → Od → Prop) (h1 : SW X b δ M st { E with nx := J }) (h2 : ∀ M' δ', J M' δ' → SWs X b δ' M' sts E) : SWs X b δ M (st :: sts) E := sws_cons (h1.nx h2)
/-- a class called, its __init__ a method of the text -/
theorem ew_mkO (mk : PySem.W.makesIn X.K C = true) (kp : PySem.W.keepIn X.K (.ref C) = true) (G : OkM X.prog X.w X.K X.mg X.base C "__init__" ps k S) (hr : Room l X.A) (hg : Gl X x) (hm : X.mg x = some (.ref C))
    (h : EWs X b δ M (e :: es) (fun M1 ds => ∀ x dx, M1 x = none → Nw b x → CallS b S (um M1 x (.ins C dx [])) (.loc (.ref x) :: ds) (fun M2 d => d = .non ∧ Φ M2 (.loc (.ref x))) Ψ) Ψ) (hj : k + 1 ≤ l := by decide)
    (hdb : (x == ("__debug__" : Str)) = false := by decide) (he : starEach (e :: es) X.env = (false, eval e X.env) :: starEach es X.env := by exact D4.starEach_c rfl) (hpl : (backTo pos (starEach es X.env)).any (·.1) = false := by exact D4.back_any rfl) :
    EW X b δ M (.Call (.Name x p) (e :: es) [] pos) Φ Ψ := by
  obtain ⟨f, fd, F, me, hb⟩ := G
  exact ew_mk ⟨mk, me.at_, me.fn, kp⟩ F (hr.mono hj) hg hm hb h hdb he hpl
end
end D4
end

section
set_option maxRecDepth 100000
set_option maxHeartbeats 4000000
/-! D5f: zip of lists that may be cells, a tuple cut whose making changes cells, a tuple's last list frozen, a dict against {}. -/
namespace D4
open PySem L2
section
variable {X : Cx} {b : Bs} {δ : Od} {M : Mp} {e e1 e2 : Expr} {es : List Expr} {Φ : Mp → D → Prop} {Ψ : Xs} {d d1 d2 : D} {xs ys ds : List D} {pos p p2 tpos : Pos} {K : Fg}
theorem walk_zipV {a c : Addr} {n m : Nat} : Walk (Itz K a c) (min n m) (fun H => (∃ vs, SqL K H a vs ∧ vs.length = n) ∧ ∃ ws, SqL K H c ws ∧ ws.length = m)
    (fun i H v H' => ∃ T x y, v = .ref T ∧ H T = none ∧ H' = upd H T (.tup [x, y]) ∧ (∀ xs, SqL K H a xs → xs[i]? = some x) ∧ ∀ ys, SqL K H c ys → ys[i]? = some y) :=
  ⟨fun i _ hi ⟨⟨vs, q1, e1⟩, ws, q2, e2⟩ => ⟨vs, ws, vs[i]'(by omega), ws[i]'(by omega), q1, q2, by simp [show i < vs.length by omega], by simp [show i < ws.length by omega]⟩,
    fun _ ⟨⟨vs, q1, e1⟩, ws, q2, e2⟩ => ⟨vs, ws, q1, q2, by omega⟩, fun _ _ _ _ _ _ y => y⟩
theorem iw_zipA {elts : List Expr} {kk : Nat} {Φ : Mp → (Mp → Prop) → List D → Prop} (hg : Gl X "zip") (hm : X.mg "zip" = none) (h1 : EV X b δ M e1 d1) (l1 : LA M d1 xs) (h2 : EV X b δ M e2 d2) (l2 : LA M d2 ys) (hΦ : Φ M (fun M' => LA M' d1 xs ∧ LA M' d2 ys) (zipD xs ys))
    (hs1 : starEach [e1, e2] X.env = (false, eval e1 X.env) :: starEach [e2] X.env := by exact D4.starEach_c rfl) (hs2 : starEach [e2] X.env = (false, eval e2 X.env) :: starEach [] X.env := by exact D4.starEach_c rfl)
    (hpl : (backTo pos (starEach [e2] X.env)).any (·.1) = false := by exact D4.back_any rfl) : IW X b δ M (.Tuple elts kk tpos) (.Call (.Name "zip" p) [e1, e2] [] pos) Φ Ψ := fun R mR σ H Q S k kx => by
  refine wi_of (pi_zip hg hm (pa_cons pe_we (pa_cons pe_we pa_nil hs2) hs1) hs1 hpl) ?_
  refine h1 R mR σ H _ S (fun M1 d v H1 p S1 => ?_) .nx
  obtain ⟨rfl, rfl⟩ := p
  refine h2 (fun G => R G ∧ Rep X.K G d1 v) (mR.and .rep) σ H1 _ S1 (fun M2 d w H2 p2 S2 => ?_) .nx
  obtain ⟨rfl, rfl⟩ := p2
  obtain ⟨G, S3, z1, ⟨z2, z3⟩, z4⟩ := S2
  obtain ⟨a, vs, rfl, ha, rs⟩ := S3.la l1 z3
  obtain ⟨c, ws, rfl, hc, rc⟩ := S3.la l2 z4
  refine ⟨a, c, vs, ws, rfl, SqL.of ha, SqL.of hc, ?_⟩
  refine k _ _ _ H2 _ (fun G => R G ∧ Rep X.K G d1 (.ref a) ∧ Rep X.K G d2 (.ref c)) hΦ (mR.and (Mono.rep.and .rep)) (fun G z => z.1) ⟨G, S3, z1, z2, z3, z4⟩ ?_
  refine ⟨_, _, by rw [zipD_len]; exact walk_zipV (K := X.K) (a := a) (c := c), ?ga, ?gb⟩
  case ga =>
    rintro M' H' ⟨q1, q2⟩ ⟨G, S', z⟩
    obtain ⟨a', vs', e1, ha', rs'⟩ := S'.la q1 z.2.1
    obtain ⟨c', ws', e2, hc', rc'⟩ := S'.la q2 z.2.2
    cases e1; cases e2
    exact ⟨⟨vs', SqL.of ha', rs'.length.symm⟩, ws', SqL.of hc', rc'.length.symm⟩
  case gb =>
    rintro i d x M' R' H' H'' mR' hi ⟨q1, q2⟩ ⟨G, S', r', z⟩ ⟨T, x1, x2, rfl, hT, rfl, hx1, hx2⟩
    obtain ⟨a', vs', e1, ha', rs'⟩ := S'.la q1 z.2.1
    obtain ⟨c', ws', e2, hc', rc'⟩ := S'.la q2 z.2.2
    cases e1; cases e2
    obtain ⟨y1, y2, f1, f2, rfl⟩ := zipD_get _ _ _ _ hi
    obtain ⟨w1, p1, p2⟩ := rs'.get f1
    obtain ⟨w2, p3, p4⟩ := rc'.get f2
    rw [hx1 _ (SqL.of ha')] at p1
    rw [hx2 _ (SqL.of hc')] at p3
    cases p1; cases p3
    obtain ⟨S2, sg⟩ := S'.frz hT (.tup [x1, x2])
    exact ⟨_, S2, mR' _ _ sg r', (mR.and (Mono.rep.and .rep)) _ _ sg z, Rep.tup_iff.mpr ⟨T, _, rfl, upd_same, .cons (p2.mono sg) (.cons (p4.mono sg) .nil)⟩⟩
theorem ew_cutT {lo hi : Option Expr} {l h : Option Int} (h1 : EW X b δ M e (fun M1 d => ∃ xs, d = .tup xs ∧ PW' X b δ M1 lo l ∧ PW' X b δ M1 hi h ∧ ¬ (HT.sIx xs.length 0 l = 0 ∧ HT.sIx xs.length xs.length h = xs.length) ∧ Φ M1 (.tup (cutD xs l h))) Ψ) : EW X b δ M (.Subscript e (.Slice lo hi none p2) pos) Φ Ψ := fun R mR σ H Q SH k kx => by
  refine we_of (pe_slice (sl_list.or sl_tup) pe_we po_wp po_wp) ?_
  refine h1 R mR σ H _ SH (fun M1 d' v H1 p1 S1 => ?_) kx
  obtain ⟨xs, rfl, h2, h3, hn, q⟩ := p1
  refine h2.run (R := fun G => R G ∧ Rep X.K G (.tup xs) v) (mR.and .rep) S1 fun H2 S2 => ?_
  refine h3.run (R := fun G => R G ∧ Rep X.K G (.tup xs) v) (mR.and .rep) S2 fun H3 S3 => ?_
  obtain ⟨G, S3, z1, z2, z3⟩ := S3
  obtain ⟨a, vs, rfl, ha, rs⟩ := Rep.tup_iff.mp z3
  refine .inr ⟨a, vs, rfl, SqT.of (S3.gh _ _ ha), by rw [← rs.length]; exact hn, fun p hp => ?_⟩
  obtain ⟨S4, sg⟩ := S3.frz hp (.tup (cutV vs l h))
  exact k _ _ _ _ q ⟨_, S4, Mono.env _ _ sg z1, mR _ _ sg z2, Rep.tup_iff.mpr ⟨p, _, rfl, upd_same, (rs.cut l h).mono sg⟩⟩
theorem Reps.last {G : Hp} {d : D} : ∀ {ds : List D} {vs : List V}, Reps K G (ds ++ [d]) vs → ∃ us v, vs = us ++ [v] ∧ Reps K G ds us ∧ Rep K G d v
  | [], vs, h => by
    obtain ⟨v, r, e, h1, t⟩ := h.cons_inv
    cases t.nil_inv
    exact ⟨[], v, e, .nil, h1⟩
  | x :: ds, vs, h => by
    obtain ⟨v, r, e, h1, t⟩ := Reps.cons_inv (show Reps K G (x :: (ds ++ [d])) vs from h)
    obtain ⟨us, u, e2, h2, h3⟩ := Reps.last t
    subst e2 e
    exact ⟨v :: us, u, rfl, .cons h1 h2, h3⟩
/-- a tuple whose last item is a new list: the list is frozen -/
abbrev FrzT (b : Bs) (Φ : Mp → D → Prop) : Mp → D → Prop := fun M1 d => ∃ ds a xs, d = .tup (ds ++ [.loc (.ref a)]) ∧ M1 a = some (.lst xs) ∧ Nw b a ∧ Φ (dm M1 a) (.tup (ds ++ [.lst xs]))
theorem EW.frzT (h : EW X b δ M e (FrzT b Φ) Ψ) : EW X b δ M e Φ Ψ := fun R mR σ H Q SH k kx => by
  refine h R mR σ H Q SH (fun M' d v H' ⟨ds, a, xs, e1, hm, hw, p⟩ ⟨G, S', z1, z2, z3⟩ => ?_) kx
  subst e1
  obtain ⟨t, vs, rfl, ht, rs⟩ := Rep.tup_iff.mp z3
  obtain ⟨us, u, rfl, r1, r2⟩ := rs.last
  have ev := Rep.loc_iff.mp r2
  subst ev
  obtain ⟨G', S2, sg, r⟩ := S'.freeze hm hw
  exact k _ _ _ H' p ⟨G', S2, Mono.env _ _ sg z1, mR _ _ sg z2, Rep.tup_iff.mpr ⟨t, _, rfl, sg _ _ ht, (r1.mono sg).append (.cons r .nil)⟩⟩
end
/-- a dict against an empty one -/
def rNeD0 : R2 := fun x y H Q => ∃ a c ks, x = .ref a ∧ y = .ref c ∧ H a = some (.dK ks) ∧ H c = some (.dK []) ∧ Q (.bl (!ks.isEmpty)) H
theorem op_ne_dict0 {X : Cx} (hu : X.A.units < cLine) : OpR X (compareOp .NotEq) rNeD0 := by
  intro pins s σ H x y v u Q I rx ry h
  obtain ⟨a, c, ks, rfl, rfl, ea, eb, q⟩ := h
  obtain rfl : v = Value.ref a := rx
  obtain rfl : u = Value.ref c := ry
  obtain ⟨_, ya, va, ra, da⟩ := (show ObjOk X.prog X.w H s.heap a (.dK ks) from I.hok a _ ea)
  obtain ⟨_, yb, vb, rb, db⟩ := (show ObjOk X.prog X.w H s.heap c (.dK []) from I.hok c _ eb)
  have hb : vb.length = 0 := by rw [← rb.length]; rfl
  have ha : va.length = ks.length := ra.length.symm
  refine PySem.W.keq_ne (knd := mixKind X.prog X.w) (r := true) ya yb da db hu (fun h => ?_) (fin_bl I q ?_)
  · have : va = [] := List.length_eq_zero_iff.mp (h.trans hb)
    subst this
    exact .nil
  · rw [ha, hb]
    cases ks <;> simp
section
variable {X : Cx} {b : Bs} {M : Mp} {a c : Addr} {kvs : List (Int × D)}
theorem o_neD0 (hu : X.A.units < cLine) (h1 : M a = some (.dI kvs)) (h2 : M c = some (.dI [])) : OW X b (compareOp .NotEq) M (.loc (.ref a)) (.loc (.ref c)) (One M (.bl (!kvs.isEmpty))) :=
  ow_of (op_ne_dict0 hu) fun R mR x y H G Q S z r1 r2 k => by
    obtain ⟨_, o1, ho1, ws, e1, rw1⟩ := S.cel a _ h1
    obtain ⟨_, o2, ho2, ws2, e2, rw2⟩ := S.cel c _ h2
    subst e1 e2
    have : ws2 = [] := by
      have := RepK.length (f := keyI) rw2
      exact List.length_eq_zero_iff.mp this.symm
    subst this
    refine ⟨a, c, ws, Rep.loc_iff.mp r1, Rep.loc_iff.mp r2, ho1, ho2, ?_⟩
    have : ws.isEmpty = kvs.isEmpty := by
      have := RepK.length (f := keyI) rw1
      cases ws <;> cases kvs <;> simp at this ⊢
    rw [this]
    exact k M _ _ H ⟨rfl, rfl⟩ ⟨G, S, z, Rep.bl_iff.mpr rfl⟩
end
end D4
end

section
set_option maxRecDepth 100000
set_option maxHeartbeats 4000000
/-! D5g: try .. except. -/
namespace D4
open PySem L2
section
variable {X : Cx} {b : Bs} {δ : Od} {M : Mp} {x n : Str} {c : Value} {body suite : List Stmt} {b₀ : Stmt} {np pos pos' : Pos} {E : DE}
theorem sw_try_only (hc : Names X x c) (h : ∀ pn xe, PassesOwn (model X.prog X.w) X.A X.env xe → SWs (X.tr pn xe) b δ M body { E with xc := fun cls M' δ' => ∃ bb, PySem.W.exmOne X.K cls c = some bb ∧ (bb = true → ∀ a q, SWs (X.suite a q) b δ' M' (b₀ :: suite) { E with xc := fun _ _ _ => False }) ∧ (bb = false → E.xc cls M' δ') })
    (hs : X.stack = X.env :: X.outer := by rfl) (hf : X.env.frame = some X.env.locals := by rfl) :
    SW X b δ M (.Try body [.ExceptHandler (some (.Name x np)) none (b₀ :: suite) pos'] [] [] pos) E := fun R mR σ H S kx => by
  refine ws_of (ps_try_only (tb := fun W D σ H => ∀ pn xe, Takes (X.tr pn xe) W → PassesOwn (model X.prog X.w) X.A X.env xe → WSs (X.tr pn xe) body D σ H) (ts := fun a cls d D σ H => ∀ q, WSs (X.suite a q) (b₀ :: suite) D σ H) hs hf hc takes_wxc
    (fun W pn xe tk pa => ⟨fun pins s σ H D I h => (h pn xe tk pa).run pins s I⟩) (fun a oe cls d pn _ _ => ⟨fun pins s σ H D I h => (h _).run pins s I⟩)) ?_
  intro pn xe tk pa
  refine h pn xe pa R mR σ H S fun cls M' δ' σ' H' p S' => ?_
  refine wxc_of tk ?_
  obtain ⟨bb, e, h1, h2⟩ := p
  exact ⟨bb, e, fun hb a _ q => h1 hb a q R mR σ' H' S' fun _ _ _ _ _ z => z.elim, fun hb => kx cls M' δ' σ' H' (h2 hb) S'⟩
end
/-- an error of the class at S is what «except S» names -/
theorem exm_self {K : Fg} {S : Addr} (h1 : PySem.W.subIn K (.ref S) (.type "BaseException") = some true) (h2 : PySem.W.isClsIn K S = true) (h3 : PySem.W.typeIn K (.ref S) = some (.type "type")) (h4 : PySem.W.subIn K (.ref S) (.ref S) = some true) :
    PySem.W.exmOne K (.ref S) (.ref S) = some true := by
  have e1 : (PySem.W.subIn K (.ref S) (.type "BaseException") == some true) = true := by rw [h1] <;> rfl
  have e2 : ((PySem.W.clsIn K S).isSome && PySem.W.typeIn K (.ref S) == some (.type "type")) = true := by
    have h2' : (PySem.W.clsIn K S).isSome = true := h2
    rw [h2', h3] <;> rfl
  show (if (PySem.W.subIn K (.ref S) (.type "BaseException") == some true) = true then (if ((PySem.W.clsIn K S).isSome && PySem.W.typeIn K (.ref S) == some (.type "type")) = true then PySem.W.subIn K (.ref S) (.ref S) else none) else none) = some true
  rw [if_pos e1, if_pos e2]
  exact h4
end D4
end

section
set_option maxRecDepth 100000
set_option maxHeartbeats 4000000
set_option pp.maxSteps 600
open PySem L2 D4
local macro_rules | `(tactic| walk_at "op") => `(tactic| first
  | exact o_add | exact o_sub | exact o_mul (Or.inr ⟨by decide, by decide⟩) | exact o_mul (Or.inl ⟨by decide, by decide⟩) | exact o_div ⟨by decide, by decide⟩ | exact o_mod (by decide) | exact o_lt | exact o_le | exact o_gt | exact o_ge
  | exact o_eqI | exact o_neI | exact o_eqS | exact o_neS | exact o_eqB | exact o_neB | exact o_isN | exact o_notN)
local macro_rules | `(tactic| walk_at "la") => `(tactic| first | exact LA.l | exact LA.c (by assumption) | exact LA.c um_same | exact LA.c (by walk_at "m"))
local macro_rules | `(tactic| walk_at "ix") => `(tactic| first | exact x_tup rfl | exact x_tup (by assumption) | exact x_scr (by assumption) | exact x_la (by walk_at "la") (by assumption) | exact x_la (by walk_at "la") rfl)
local macro_rules | `(tactic| walk_at "m") => `(tactic| first | assumption | exact um_same | exact um_old (by assumption) (by assumption))
local macro_rules | `(tactic| walk_at "w") => `(tactic| first | assumption | exact Nw.wr (by assumption) | exact Or.inl (by assumption))
local macro_rules | `(tactic| walk_at "dk") => `(tactic| first | exact Or.inl (by walk_at "m") | exact Or.inr ⟨_, _, by walk_at "m"⟩)
local macro_rules | `(tactic| walk_at "key") => `(tactic| first | exact IsKey.i (by walk_at "dk") | exact IsKey.t (by walk_at "m"))
local macro_rules | `(tactic| walk_at "ty") => `(tactic| first | exact TyD.int | exact TyD.bl | exact TyD.str | exact TyD.lst | exact TyD.tup | exact TyD.non | exact TyD.cl (by walk_at "m") | exact TyD.cd (by walk_at "m"))
local macro_rules | `(tactic| walk_at "call") => `(tactic| first
  | exact c_lenA (by walk_at "la") | exact c_len_scr | exact c_len_tup | exact c_len_dk (by walk_at "dk") | exact c_isi (c := true) (by walk_at "ty") | exact c_isi (c := false) (by walk_at "ty")
  | exact c_int_bl | exact c_all rfl | exact c_list_lst | exact c_tuple_lst | exact c_max2 rfl | exact c_min2 rfl)

namespace Ph
open PySem L2 D4 K8
section
variable {P : Program} {w : World} {K : Fg} {mg : Str → Option Value} {base : Heap}
/-! a pair comes; what is asked -/
def S_come (C : Addr) (er : Er → Addr) : FSp := fun own fr M ds Φ Ψ => ∃ (h dx p : Addr) (a b came : Int) (l r : D) (tl tr : String) (rs : Rows), ds = [.loc (.ref h), l, r] ∧ M h = some (.ins C dx (hallF p a b came)) ∧ M p = some (.dI (encR rs)) ∧ own h ∧ TyD M l tl ∧ TyD M r tr ∧ Inv rs came ∧
  (amongB l 0 (a - 1) = false → Ψ (.ref (er .ends)) M) ∧ (amongB l 0 (a - 1) = true → amongB r 0 (b - 1) = false → Ψ (.ref (er .ends)) M) ∧ (amongB l 0 (a - 1) = true → amongB r 0 (b - 1) = true → rs.length = 40 → Ψ (.ref (er .many)) M) ∧
  (rs.length < 40 → ∀ li ri, l = .int li → r = .int ri → 0 ≤ li → li ≤ a - 1 → 0 ≤ ri → ri ≤ b - 1 → ∀ q nq, fr q → fr nq → M q = none → M nq = none → q ≠ nq → Φ (um (um (um M h (.ins C dx (hallF q a b (came + 1)))) q (.dI (encR (comeR rs came li ri)))) nq (.lst ((comeG rs li ri).ns.map D.int))) (.tup [.int came, .int (comeG rs li ri).hue, gD (comeG rs li ri).other, .loc (.ref nq)]))
theorem place_left (er : Er → Addr) (e : D) (a b : Int) : placeR er (.str "left") e a b = if amongB e 0 (a - 1) = true then .inl (.int 0) else .inr (.ref (er .ends)) := placeR_some (i := 0) (by rw [sideOf_str, if_pos rfl])
theorem ne_rl : ¬ (("right" : Str) = "left") := by decide +kernel
theorem place_right (er : Er → Addr) (e : D) (a b : Int) : placeR er (.str "right") e a b = if amongB e 0 (b - 1) = true then .inl (.int 1) else .inr (.ref (er .ends)) := placeR_some (i := 1) (by rw [sideOf_str, if_neg ne_rl, if_pos rfl])
theorem ok_come {C : Addr} {er : Er → Addr} (F : FdM K C "come" "Hall.come" ["self", "left", "right"] s_Hall_come) (T : HallT K mg C) (G_place_of : OkM P w K mg base C "place_of" ["self", "side", "end"] 2 (S_place_of C er)) (G_put : OkM P w K mg base C "put" ["self", "number", "left", "right", "many"] 5 (S_put C)) (G_count_of : OkF P w K mg base "count_of" ["rows"] 2 S_count_of)
    (g_MP : ∃ t, mg "MOST_PAIRS" = some (.int 40 t)) (X_many : XcF K mg "TooMany" (er .many)) (n_len : mg "len" = none) (n_list : mg "list" = none) : OkM P w K mg base C "come" ["self", "left", "right"] 6 (S_come C er) := by
  obtain ⟨tMP, g_MP⟩ := g_MP
  refine fnM F sc_Hall_come (fun own fr M ds Φ Ψ h => ?_) (fun f cdv A outer s H E hr b M ds Φ Ψ fr hfr h => ?_)
  · obtain ⟨h, dx, p, a, b, came, l, r, tl, tr, rs, rfl, _⟩ := h
    rfl
  · obtain ⟨h, dx, p, a, b', came, l, r, tl, tr, rs, rfl, hm, hp, hown, htl, htr, hI, h1, h2, h3, hΦ⟩ := h
    have ND := sc_Hall_come.nd
    have hhp := hm_ne hm hp
    have pl1 : P_place_of C er M [.loc (.ref h), .str "left", l] (placeR er (.str "left") l a b') := ⟨h, dx, p, a, b', came, _, l, _, tl, rfl, hm, .str, htl, rfl⟩
    have pl2 : P_place_of C er M [.loc (.ref h), .str "right", r] (placeR er (.str "right") r a b') := ⟨h, dx, p, a, b', came, _, r, _, tr, rfl, hm, .str, htr, rfl⟩
    rw [place_left] at pl1
    rw [place_right] at pl2
    have n1 : lookF (hallF p a b' came) "place_of" = none := hall_no _ _ _ _ (by decide +kernel)
    have n2 : lookF (hallF p a b' (came + 1)) "put" = none := hall_no _ _ _ _ (by decide +kernel)
    cases c1 : amongB l 0 (a - 1) with
    | false =>
      rw [c1, if_neg (by decide)] at pl1
      exact sws_cons (sw_expr (ew_methO G_place_of T.cl hr (ev_var 0 rfl) hm n1 (EWs.to (evs_cons ev_str (evs_cons (ev_var 1 rfl) evs_nil)) (CallS.exc pl1 (h1 c1)))))
    | true =>
      rw [c1, if_pos rfl] at pl1
      refine sws_cons (sw_expr (ew_methO G_place_of T.cl hr (ev_var 0 rfl) hm n1 (EWs.to (evs_cons ev_str (evs_cons (ev_var 1 rfl) evs_nil)) (CallS.val pl1 ?_))))
      cases c2 : amongB r 0 (b' - 1) with
      | false =>
        rw [c2, if_neg (by decide)] at pl2
        exact sws_cons (sw_expr (ew_methO G_place_of T.cl hr (ev_var 0 rfl) hm n1 (EWs.to (evs_cons ev_str (evs_cons (ev_var 2 rfl) evs_nil)) (CallS.exc pl2 (h2 c1 c2)))))
      | true =>
        rw [c2, if_pos rfl] at pl2
        refine sws_cons (sw_expr (ew_methO G_place_of T.cl hr (ev_var 0 rfl) hm n1 (EWs.to (evs_cons ev_str (evs_cons (ev_var 2 rfl) evs_nil)) (CallS.val pl2 ?_))))
        refine sws_cons (sw_if (TW.to (tv_cmp (ev_cb rfl n_len b_len (evs_cons (ev_fld (ev_var 0 rfl) hm T.cl T.n_rows (hall_rows _ _ _ _)) evs_nil) (c_len_dk (.inl hp))) (ev_glob (v := .int 40) rfl g_MP ⟨tMP, rfl⟩ fun _ => Rep.int_iff.mpr rfl) (by walk_at "op")) ⟨fun hc => ?_, fun hc => sws_nil ?_⟩))
        · have hlen : rs.length = 40 := by
            rw [encR_len] at hc
            have : ((rs.length : Nat) : Int) = 40 := by simpa using hc
            omega
          exact sws_cons (sw_raise X_many rfl rfl (h3 c1 c2 hlen))
        · have hlen : rs.length < 40 := by
            rw [encR_len] at hc
            have : ¬ ((rs.length : Nat) : Int) = 40 := by simpa using hc
            have := hI.len
            omega
          obtain ⟨li, rfl, l1, l2⟩ := among_int c1
          obtain ⟨ri, rfl, r1, r2⟩ := among_int c2
          have hw : Wr b h := .inr hown
          have hml := many_le rs li ri
          refine sws_cons (sw_set 3 (EW.to (d := .int (manyOf rs li ri : Nat)) (ev_callO G_count_of hr rfl (evs_cons (ev_bin (ev_listVals rfl rfl n_list (ev_fld (ev_var 0 rfl) hm T.cl T.n_rows (hall_rows _ _ _ _)) (.i (.inl hp))) (ev_lst (evs_cons (ev_tup (evs_cons (ev_var 1 rfl) (evs_cons (ev_var 2 rfl) evs_nil))) evs_nil)) (o_cat .l .l ?_)) evs_nil) ⟨_, endsOf rs 0 ++ [li], endsOf rs 1 ++ [ri], rfl, ?_, ?_, ?_, rfl⟩) ?_) ND)
          · rw [List.length_map, encR_len]; show _ + 1 ≤ _; omega
          · rw [encR_vals, ← ends_map]; exact (keyed 0 (by decide) _).snoc rfl
          · rw [encR_vals, ← ends_map]; exact (keyed 1 (by decide) _).snoc rfl
          · rw [List.length_append, List.length_map, encR_len]; show _ + 1 ≤ _; omega
          · refine sws_cons (sw_fld (x := "came") (EW.to (ev_bin (ev_fld (ev_var 0 rfl) hm T.cl T.n_came (hall_came _ _ _ _)) ev_int (by walk_at "op")) ⟨(ev_var 0 rfl), _, hm, by show 3 < 1000; decide, ?_⟩) hw T.cl T.n_came)
            rw [hall_put_came]
            have G := come_ok hI li ri
            refine sws_cons (sw_ret (ew_methO G_put T.cl hr (ev_var 0 rfl) um_same n2 (EWs.to (evs_cons (EV.cast (ev_bin (ev_fld (ev_var 0 rfl) um_same T.cl T.n_came (hall_came _ _ _ _)) ev_int (by walk_at "op")) (congrArg D.int (show came + 1 - 1 = came by omega))) (evs_cons (ev_var 1 rfl) (evs_cons (ev_var 2 rfl) (evs_cons (ev_var 3 rfl) evs_nil)))) ⟨fun x => x = h, fun x e => (by subst e; exact hw), fun fr' hf => ⟨h, dx, p, a, b', came + 1, came, li, ri, manyOf rs li ri, rs, rfl, um_same, by rw [um_ne (Ne.symm hhp)]; exact hp, rfl, by omega, hI.nd, hI.proper, by omega, free_ne (many_l rs li ri), free_ne (many_r rs li ri), ?_, fun q nq hq hnq hq1 hnq1 hne => ?_⟩⟩)))
            · have := G.len
              show (comeG rs li ri).rows.length ≤ 100
              omega
            · have hqh : q ≠ h := fun e => by rw [e, um_same] at hq1; cases hq1
              have hnh : nq ≠ h := fun e => by rw [e, um_same] at hnq1; cases hnq1
              rw [um_ne hqh] at hq1
              rw [um_ne hnh] at hnq1
              rw [um_um]
              exact hΦ hlen li ri rfl rfl l1 l2 r1 r2 q nq ((hfr q).mpr (hf q hq).2) ((hfr nq).mpr (hf nq hnq).2) hq1 hnq1 hne
def pairD (rs : Rows) (n : Int) : D := .tup (.int n :: enc3 (rowOf rs n))
def P_pairs (C : Addr) : Mp → List D → List D → Prop := fun M ds xs => ∃ (h dx p : Addr) (a b came : Int) (rs : Rows), ds = [.loc (.ref h)] ∧ M h = some (.ins C dx (hallF p a b came)) ∧ M p = some (.dI (encR rs)) ∧ rs.length ≤ 60 ∧ (keys rs).Nodup ∧ xs = (sortK (keys rs)).map (pairD rs)
def S_pairs (C : Addr) : FSp := FreshS (P_pairs C)
theorem encR_keys (rs : Rows) : (encR rs).map (·.1) = keys rs := by unfold encR keys; rw [List.map_map]; rfl
theorem key_at {M : Mp} {p : Addr} {rs : Rows} (hp : DkI M p (encR rs)) (hn : (keys rs).Nodup) {n : Int} (hk : n ∈ keys rs) : IsKey M p (.int n) (some (.tup (enc3 (rowOf rs n)))) := by
  obtain ⟨x, hx, rfl⟩ := List.mem_map.mp hk
  have := IsKey.i (i := x.1) hp
  rw [lookD_encR, look_of hn (show (x.1, x.2) ∈ rs from hx)] at this
  rw [rowOf_of hn (show (x.1, x.2) ∈ rs from hx)]
  exact this
theorem ok_pairs {C : Addr} (F : FdM K C "pairs" "Hall.pairs" ["self"] s_Hall_pairs) (T : HallT K mg C) (n_sorted : mg "sorted" = none) : OkM P w K mg base C "pairs" ["self"] 1 (S_pairs C) := by
  refine fnM F sc_Hall_pairs (fun own fr M ds Φ Ψ h => ?_) (fun f cdv A outer s H E hr b M ds Φ Ψ fr hfr h => ?_)
  · obtain ⟨_, ⟨h, dx, p, a, b, came, rs, rfl, _⟩, _⟩ := h
    rfl
  · obtain ⟨_, ⟨h, dx, p, a, b', came, rs, rfl, hm, hp, hl, hn, rfl⟩, hΦ⟩ := h
    have ND := sc_Hall_pairs.nd
    have hu := hu_of hr
    refine sws_cons (sw_ret (ew_lcN (xs := sortK (keys rs)) (enc := D.int) (t := fun _ => true) (f := pairD rs) (js := [1]) (g := fun n => [.int n]) (own := [("number", 1)]) rfl ND (blkOk_by (by dsimp only [L2.cxOf, PyProof.Rows.envOfC]; decide +kernel)) ?_))
    have hlen : (sortK (keys rs)).length ≤ 100000 := by rw [(sortK_perm _).length_eq, keys_len]; omega
    refine lcp_la (ev_cb rfl n_sorted b_sorted (evs_cons (ev_fld (ev_var 0 rfl) hm T.cl T.n_rows (hall_rows _ _ _ _)) evs_nil) (c_sortedD rfl (.inl hp) (by rw [encR_keys]; exact sortK_perm _) (sortK_le _) (by rw [encR_len]; omega))) .l hlen (fun x hx _ _ _ _ _ => gs_name 1 ND) (fun x hx M2 hM => turn0 rfl fun _ _ _ _ _ => ev_bin (ev_tup (evs_cons (ev_var 1 rfl) evs_nil)) (ev_dget (by exact hu) (ev_fld (ev_var 0 rfl) (hM _ _ hm) T.cl T.n_rows (hall_rows _ _ _ _)) (ev_var 1 rfl) (key_at (.inl (hM _ _ hp)) hn (mem_sortK.mp hx))) (o_catT (by simp) (by show 1 + 3 ≤ 100000; decide))) ?_
    intro q hq1 hq2
    rw [filter_all (fun _ => rfl)]
    exact hΦ q ((hfr q).mpr hq2) hq1
def hasB (rs : Rows) (came : Int) (x : D) : Bool := match x with
  | .int n => decide (n ∈ keys rs)
  | _ => false
def P_need (C : Addr) (er : Er → Addr) : Mp → List D → D ⊕ Value → Prop := fun M ds r => ∃ (h dx p : Addr) (a b came : Int) (rs : Rows) (x : D) (t : String), ds = [.loc (.ref h), x] ∧ M h = some (.ins C dx (hallF p a b came)) ∧ M p = some (.dI (encR rs)) ∧ Inv rs came ∧ TyD M x t ∧ r = if hasB rs came x = true then .inl .non else .inr (.ref (er .pair))
def S_need (C : Addr) (er : Er → Addr) : FSp := PureX (P_need C er)
theorem ok_need {C : Addr} {er : Er → Addr} (F : FdM K C "need_pair" "Hall.need_pair" ["self", "number"] s_Hall_need_pair) (T : HallT K mg C) (G_is_among : OkF P w K mg base "is_among" ["thing", "least", "most"] 1 S_is_among) (X_pair : XcF K mg "NoPair" (er .pair)) : OkM P w K mg base C "need_pair" ["self", "number"] 2 (S_need C er) := by
  refine fnM F sc_Hall_need_pair (fun own fr M ds Φ Ψ h => ?_) (fun f cdv A outer s H E hr b M ds Φ Ψ fr hfr h => ?_)
  · obtain ⟨_, ⟨h, dx, p, a, b, came, rs, x, t, rfl, _⟩, _⟩ := h
    rfl
  · obtain ⟨_, ⟨h, dx, p, a, b', came, rs, x, t, rfl, hm, hp, hI, ht, rfl⟩, hΦ⟩ := h
    have hu := hu_of hr
    have key : TV (cxOf (L2.CX P w) P w K mg base ["self", "number"] "Hall.need_pair" (defScope s_Hall_need_pair) f cdv A outer s H E) b [some (.loc (.ref h)), some x] M (match defBody s_Hall_need_pair with | (.If c _ _ _) :: _ => c | _ => .Constant .none 0 ⟨0, 0, 0, 0⟩) (!(hasB rs came x)) := by
      cases c1 : amongB x 0 (came - 1) with
      | false =>
        have hb : hasB rs came x = false := by
          cases x with
          | int n =>
            show decide (n ∈ keys rs) = false
            refine decide_eq_false fun hk => ?_
            have := hI.below n hk
            have c1 : (decide (0 ≤ n) && decide (n ≤ came - 1)) = false := c1
            rw [decide_eq_true this.1, decide_eq_true (by omega)] at c1
            cases c1
          | _ => rfl
        rw [hb]
        exact tv_pw (TVW.cast (tvw_or (c2 := true) (tv_not (tv_val (EV.cast (ev_callO G_is_among hr rfl (evs_cons (ev_var 1 rfl) (evs_cons ev_int (evs_cons (ev_bin (ev_fld (ev_var 0 rfl) hm T.cl T.n_came (hall_came _ _ _ _)) ev_int (by walk_at "op")) evs_nil))) ⟨x, t, _, _, rfl, ht, rfl⟩) (congrArg D.bl c1)))) fun q => (by cases q)) (by rfl))
      | true =>
        obtain ⟨n, rfl, n1, n2⟩ := among_int c1
        exact tv_pw (TVW.cast (tvw_or (tv_not (tv_val (EV.cast (ev_callO G_is_among hr rfl (evs_cons (ev_var 1 rfl) (evs_cons ev_int (evs_cons (ev_bin (ev_fld (ev_var 0 rfl) hm T.cl T.n_came (hall_came _ _ _ _)) ev_int (by walk_at "op")) evs_nil))) ⟨.int n, t, _, _, rfl, ht, rfl⟩) (congrArg D.bl c1)))) fun _ => tvw_or1 (tv_dnotin hu (ev_var 1 rfl) (ev_fld (ev_var 0 rfl) hm T.cl T.n_rows (hall_rows _ _ _ _)) (.i (.inl hp)))) (by
          rw [lookD_encR, Option.isSome_map]
          show (false || !(look rs n).isSome) = !(decide (n ∈ keys rs))
          rw [Bool.false_or]
          congr 1
          cases q : look rs n with
          | none => rw [decide_eq_false (look_none.mp q)]; rfl
          | some r =>
            have hk : n ∈ keys rs := List.mem_map.mpr ⟨_, look_mem q, rfl⟩
            rw [decide_eq_true hk]; rfl))
    refine sws_cons (sw_if (TW.to key ⟨fun hc => ?_, fun hc => sws_nil ?_⟩))
    · have hc : hasB rs came x = false := by simpa using hc
      rw [hc, if_neg (by decide)] at hΦ
      exact sws_cons (sw_raise X_pair rfl rfl hΦ)
    · have hc : hasB rs came x = true := by simpa using hc
      rw [if_pos hc] at hΦ
      exact sws_nil hΦ
def P_hue_of (C : Addr) (er : Er → Addr) : Mp → List D → D ⊕ Value → Prop := fun M ds r => ∃ (h dx p : Addr) (a b came : Int) (rs : Rows) (x : D) (t : String), ds = [.loc (.ref h), x] ∧ M h = some (.ins C dx (hallF p a b came)) ∧ M p = some (.dI (encR rs)) ∧ Inv rs came ∧ TyD M x t ∧ ((hasB rs came x = false ∧ r = .inr (.ref (er .pair))) ∨ ∃ n, x = .int n ∧ n ∈ keys rs ∧ r = .inl (.int (hueOf (rowOf rs n))))
def S_hue_of (C : Addr) (er : Er → Addr) : FSp := PureX (P_hue_of C er)
/-! a pair goes -/
def encG (p : Int × Gv) : D := .tup [.int p.1, .int p.2.hue, gD p.2.other, .lst (p.2.ns.map D.int)]
theorem look_key {rs : Rows} {n : Int} (hk : n ∈ keys rs) : look rs n = some (rowOf rs n) := by
  unfold rowOf
  cases q : look rs n with
  | none => exact absurd hk (look_none.mp q)
  | some r => rfl
def S_go (C : Addr) (er : Er → Addr) : FSp := fun own fr M ds Φ Ψ => ∃ (h dx p : Addr) (a b came : Int) (x : D) (t : String) (rs : Rows), ds = [.loc (.ref h), x] ∧ M h = some (.ins C dx (hallF p a b came)) ∧ M p = some (.dI (encR rs)) ∧ own h ∧ TyD M x t ∧ Inv rs came ∧ (hasB rs came x = false → Ψ (.ref (er .pair)) M) ∧
  (∀ n, x = .int n → n ∈ keys rs → ∀ q tq, fr q → fr tq → M q = none → M tq = none → q ≠ tq → Φ (um (um (um M h (.ins C dx (hallF q a b came))) q (.dI (encR (goR rs n)))) tq (.lst ((goT rs n).map encG))) (.loc (.ref tq)))
theorem ok_go {C : Addr} {er : Er → Addr} (F : FdM K C "go" "Hall.go" ["self", "number"] s_Hall_go) (T : HallT K mg C) (G_need : OkM P w K mg base C "need_pair" ["self", "number"] 2 (S_need C er)) (G_hcount : OkM P w K mg base C "count" ["self"] 3 (S_count C)) (G_put : OkM P w K mg base C "put" ["self", "number", "left", "right", "many"] 5 (S_put C)) (n_dict : mg "dict" = none) (n_sorted : mg "sorted" = none) : OkM P w K mg base C "go" ["self", "number"] 6 (S_go C er) := by
  refine fnM F sc_Hall_go (fun own fr M ds Φ Ψ h => ?_) (fun f cdv A outer s H E hr b M ds Φ Ψ fr hfr h => ?_)
  · obtain ⟨h, dx, p, a, b, came, x, t, rs, rfl, _⟩ := h
    rfl
  · obtain ⟨h, dx, p, a, b', came, x, t, rs, rfl, hm, hp, hown, ht, hI, hX, hΦ⟩ := h
    have ND := sc_Hall_go.nd
    have hu := hu_of hr
    have hw : Wr b h := .inr hown
    have nd : P_need C er M [.loc (.ref h), x] (if hasB rs came x = true then .inl .non else .inr (.ref (er .pair))) := ⟨h, dx, p, a, b', came, rs, x, t, rfl, hm, hp, hI, ht, rfl⟩
    cases hb : hasB rs came x with
    | false =>
      rw [hb, if_neg (by decide)] at nd
      exact sws_cons (sw_expr (ew_methO G_need T.cl hr (ev_var 0 rfl) hm (hall_no _ _ _ _ (by decide +kernel)) (EWs.to (evs_cons (ev_var 1 rfl) evs_nil) (CallS.exc nd (hX hb)))))
    | true =>
      rw [if_pos hb] at nd
      obtain ⟨n, rfl, hk⟩ : ∃ n, x = .int n ∧ n ∈ keys rs := by
        cases x with
        | int n => exact ⟨n, rfl, of_decide_eq_true hb⟩
        | _ => cases hb
      have hΦ := hΦ n rfl hk
      refine sws_cons (sw_expr (ew_methO G_need T.cl hr (ev_var 0 rfl) hm (hall_no _ _ _ _ (by decide +kernel)) (EWs.to (evs_cons (ev_var 1 rfl) evs_nil) (CallS.val nd ?_))))
      refine sws_cons (sw_fld (x := "rows") (ew_ct rfl n_dict b_dict (EWs.to (evs_cons (ev_fld (ev_var 0 rfl) hm T.cl T.n_rows (hall_rows _ _ _ _)) evs_nil) (c_dict (.inl hp) fun q hq1 hq2 => ⟨(ev_var 0 rfl), _, um_old hm hq1, by show 3 < 1000; decide, ?_⟩))) hw T.cl T.n_rows)
      have hqh : q ≠ h := fun e => by rw [e, hm] at hq1; cases hq1
      rw [hall_put_rows]
      refine sws_cons (sw_expr (ew_dpop (d := .tup (enc3 (rowOf rs n))) (ev_fld (ev_var 0 rfl) um_same T.cl T.n_rows (hall_rows _ _ _ _)) (ev_var 1 rfl) (by rw [um_ne hqh, um_same]) (.inl hq2) (by rw [lookD_encR, look_key hk]; rfl) ?_))
      rw [dropD_encR]
      have hlen := hI.len
      have hdl := dropR_le rs n
      generalize hbase : dropR rs n = bs at hdl
      have hm1 : um (um (um M q (.dI (encR rs))) h (.ins C dx (hallF q a b' came))) q (.dI (encR bs)) h = some (.ins C dx (hallF q a b' came)) := by rw [um_ne (Ne.symm hqh), um_same]
      refine sws_cons (sw_set 2 (EW.to (d := .int (goM rs n : Nat)) (ev_methO0 G_hcount T.cl hr (ev_var 0 rfl) hm1 (hall_no _ _ _ _ (by decide +kernel)) ⟨h, dx, q, a, b', came, bs, rfl, hm1, um_same, by omega, by rw [← hbase]; rfl⟩) ?_) ND)
      refine sws_cons (sw_set 3 (ew_lstN (EWs.to evs_nil ⟨by decide, fun tq ht1 ht2 => ?_⟩)) ND)
      have htq : tq ≠ q := fun e => by rw [e, um_same] at ht1; cases ht1
      have hth : tq ≠ h := fun e => by rw [e, um_ne (Ne.symm hqh), um_same] at ht1; cases ht1
      have htM : M tq = none := by rw [um_ne htq, um_ne hth, um_ne htq] at ht1; exact ht1
      have hqM : M q = none := hq1
      have hmany := goM_le (n := n) hI
      have hsl : (sortK (keys bs)).length ≤ 60 := by rw [(sortK_perm _).length_eq, keys_len]; omega
      have hall : ∀ P R, sortK (keys bs) = P ++ R → GI (goM rs n) bs (goS (goM rs n) bs (P.filter (isDue (goM rs n) bs))).1 (R.filter (isDue (goM rs n) bs)) := fun P R e => by
        have := go_at (n := n) hI (P := P.filter (isDue (goM rs n) bs)) (R := R.filter (isDue (goM rs n) bs))
        rw [hbase] at this
        exact this (by unfold dueL; rw [e, List.filter_append])
      have hcntb : ∀ s, s < 2 → ∀ e, (endsOf bs s).count e ≤ goM rs n := fun s hs e => by rw [← hbase]; exact cnt_ge _ s hs e
      refine sws_cons (sw_forL (xs := (sortK (keys bs)).map D.int) (fun i M' δ' => ∃ q', M' h = some (.ins C dx (hallF q' a b' came)) ∧ M' q' = some (.dI (encR (goS (goM rs n) bs (((sortK (keys bs)).take i).filter (isDue (goM rs n) bs))).1)) ∧
          M' tq = some (.lst ((goS (goM rs n) bs (((sortK (keys bs)).take i).filter (isDue (goM rs n) bs))).2.map encG)) ∧ M q' = none ∧ Nw b q' ∧ q' ≠ tq ∧ (∀ x c, x ≠ h → M x = some c → M' x = some c) ∧ ∃ o4 o5 o6 o7, δ' = [some (.loc (.ref h)), some (.int n), some (.int (goM rs n : Nat)), some (.loc (.ref tq)), o4, o5, o6, o7]) (passes_of rfl) rfl
        (ev_cb rfl n_sorted b_sorted (evs_cons (ev_fld (ev_var 0 rfl) (by rw [um_ne (Ne.symm hth)]; exact hm1) T.cl T.n_rows (hall_rows _ _ _ _)) evs_nil) (c_sortedD (kvs := encR bs) rfl (.inl (by rw [um_ne (Ne.symm htq), um_same])) (by rw [encR_keys]; exact sortK_perm _) (sortK_le _) (by rw [encR_len]; omega))) .l
        ⟨q, by rw [um_ne (Ne.symm hth)]; exact hm1, by rw [um_ne (Ne.symm htq), um_same]; rfl, um_same, hqM, hq2, Ne.symm htq, fun x c hx e => ?_, _, _, _, _, rfl⟩ (fun _ _ _ _ => .l) ?_ ?_)
      · have h1 : x ≠ tq := fun e2 => by rw [e2, htM] at e; cases e
        have h2 : x ≠ q := fun e2 => by rw [e2, hqM] at e; cases e
        rw [um_ne h1, um_ne h2, um_ne hx, um_ne h2]; exact e
      · rintro i d M' δ' hi ⟨q', hmh, hmq, hmt, hqM', hq2', hqt', hkeep, o4, o5, o6, o7, rfl⟩
        rw [List.getElem?_map] at hi
        cases hni : (sortK (keys bs))[i]? with
        | none => rw [hni] at hi; cases hi
        | some m =>
          rw [hni] at hi; cases hi
          have hil := (List.getElem?_eq_some_iff.mp hni).1
          have hsplit : sortK (keys bs) = (sortK (keys bs)).take i ++ (m :: (sortK (keys bs)).drop (i + 1)) := by
            have e2 : (sortK (keys bs)).drop i = m :: (sortK (keys bs)).drop (i + 1) := by
              rw [List.drop_eq_getElem_cons hil, (List.getElem?_eq_some_iff.mp hni).2]
            rw [← e2, List.take_append_drop]
          have G := hall _ _ hsplit
          have htk : ((sortK (keys bs)).take (i + 1)).filter (isDue (goM rs n) bs) = ((sortK (keys bs)).take i).filter (isDue (goM rs n) bs) ++ [m].filter (isDue (goM rs n) bs) := by rw [take_snoc hni, List.filter_append]
          have hmk : m ∈ keys bs := mem_sortK.mp (List.mem_of_getElem? hni)
          have hndd : (((m :: (sortK (keys bs)).drop (i + 1)).filter (isDue (goM rs n) bs))).Nodup := by
            refine List.filter_sublist.nodup ?_
            have := sortK_nd (ks := keys bs) (by rw [← hbase]; exact dropR_nd hI.nd n)
            rw [hsplit] at this
            exact (List.nodup_append.mp this).2.1
          have hqh' : q' ≠ h := fun e => by rw [e, hm] at hqM'; cases hqM'
          have hgl := goS_len (goM rs n) bs (((sortK (keys bs)).take i).filter (isDue (goM rs n) bs))
          have hgl2 : ((goS (goM rs n) bs (((sortK (keys bs)).take i).filter (isDue (goM rs n) bs))).2.map encG).length < 100000 := by
            rw [List.length_map, hgl]
            have := List.length_filter_le (isDue (goM rs n) bs) ((sortK (keys bs)).take i)
            rw [List.length_take] at this
            omega
          rw [htk]
          generalize hP : ((sortK (keys bs)).take i).filter (isDue (goM rs n) bs) = Pi at G hmq hmt hgl2
          have hcl := G.len
          have hcur : m ∈ keys (goS (goM rs n) bs Pi).1 := (G.ks m).mpr hmk
          have hrow := rowOf_mem hcur
          have hdue : decide ((goM rs n : Int) ≤ hueOf (rowOf (goS (goM rs n) bs Pi).1 m)) = isDue (goM rs n) bs m := by
            have h1 := (G.hue _ hrow).2
            cases q : isDue (goM rs n) bs m with
            | true => exact decide_eq_true (h1.mpr (List.mem_filter.mpr ⟨List.mem_cons_self, q⟩))
            | false =>
              refine decide_eq_false fun h2 => ?_
              have := (List.mem_filter.mp (h1.mp h2)).2
              rw [q] at this; cases this
          refine gw_name 4 ?_ ND
          have key : ∀ {M2 : Mp}, M2 q' = some (.dI (encR (goS (goM rs n) bs Pi).1)) → IsKey M2 q' (.int m) (some (.tup (enc3 (rowOf (goS (goM rs n) bs Pi).1 m)))) := fun h2 => key_at (.inl h2) G.nd hcur
          refine sws_cons (sw_if (TW.to (TV.cast (tv_cmp (ev_ix (ev_dget hu (ev_fld (ev_var 0 rfl) hmh T.cl T.n_rows (hall_rows _ _ _ _)) (ev_var 4 rfl) (key hmq)) ev_int (by walk_at "ix")) (ev_var 2 rfl) (by walk_at "op")) hdue) ⟨fun hc => ?_, fun hc => sws_nil (sws_nil ⟨q', hmh, ?_, ?_, hqM', hq2', hqt', hkeep, _, _, _, _, rfl⟩)⟩))
          · have hfm : [m].filter (isDue (goM rs n) bs) = [m] := by rw [List.filter_cons, if_pos hc]; rfl
            rw [hfm, goS_snoc]
            have G' : GI (goM rs n) bs (goS (goM rs n) bs Pi).1 (m :: ((sortK (keys bs)).drop (i + 1)).filter (isDue (goM rs n) bs)) := by
              rw [List.filter_cons, if_pos hc] at G
              exact G
            obtain ⟨s1, s2, s3, s4, s5⟩ := step_pre G' hcntb hcur
            have sg := step_given G' hcntb hcur
            refine sws_cons (sw_asg (ew_dpop (ev_fld (ev_var 0 rfl) hmh T.cl T.n_rows (hall_rows _ _ _ _)) (ev_var 4 rfl) hmq (.inl hq2') (by rw [lookD_encR, look_key hcur]; rfl) (gw_tup rfl (gws_cons (gw_name 5 (gws_cons (gw_name 6 (gws_cons (gw_name 7 (gws_nil ?_) ND)) ND)) ND)))))
            rw [dropD_encR]
            generalize hcu : goS (goM rs n) bs Pi = cu at *
            have hmt2 : um M' q' (.dI (encR (dropR cu.1 m))) tq = some (.lst (cu.2.map encG)) := by rw [um_ne (Ne.symm hqt')]; exact hmt
            have hmh2 : um M' q' (.dI (encR (dropR cu.1 m))) h = some (.ins C dx (hallF q' a b' came)) := by rw [um_ne (Ne.symm hqh')]; exact hmh
            refine sws_cons (sw_expr (ew_append (ev_var 3 rfl) hmt2 (.inl ht2) hgl2 (EW.frzT (ew_methO G_put T.cl hr (ev_var 0 rfl) hmh2 (hall_no _ _ _ _ (by decide +kernel)) (EWs.to (evs_cons (ev_var 4 rfl) (evs_cons (ev_var 5 rfl) (evs_cons (ev_var 6 rfl) (evs_cons (ev_var 2 rfl) evs_nil)))) ⟨fun x => x = h, fun x e => (by subst e; exact hw), fun fr' hf => ⟨h, dx, q', a, b', came, m, _, _, goM rs n, dropR cu.1 m, rfl, hmh2, um_same, rfl, by omega, s2, s1, by omega, free_ne s3, free_ne s4, ?_, fun q2 nq hf1 hf2 hf3 hf4 hne => ⟨[.int m, .int (stepG (goM rs n) cu.1 m).hue, gD (stepG (goM rs n) cu.1 m).other], nq, (stepG (goM rs n) cu.1 m).ns.map D.int, rfl, um_same, (hf nq hf2).2, ?_, ?_⟩⟩⟩)))))
            · have : (stepG (goM rs n) cu.1 m).rows.length = (dropR cu.1 m).length := by rw [← keys_len, sg.keys, keys_len]
              show (stepG (goM rs n) cu.1 m).rows.length ≤ 100
              omega
            · have hnh : nq ≠ h := fun e => by rw [e, hmh2] at hf4; cases hf4
              have hntq : tq ≠ nq := fun e => by rw [← e, hmt2] at hf4; cases hf4
              have hqtq : tq ≠ q2 := fun e => by rw [← e, hmt2] at hf3; cases hf3
              rw [dm_ne hntq, um_ne hntq, um_ne hqtq, um_ne hth]
              exact hmt2
            · have hnh : nq ≠ h := fun e => by rw [e, hmh2] at hf4; cases hf4
              have hq2h : q2 ≠ h := fun e => by rw [e, hmh2] at hf3; cases hf3
              have hqtq : q2 ≠ tq := fun e => by rw [e, hmt2] at hf3; cases hf3
              have hq2q : q2 ≠ q' := fun e => by rw [e, um_same] at hf3; cases hf3
              have hnqq : nq ≠ q' := fun e => by rw [e, um_same] at hf4; cases hf4
              rw [dm_um (by rw [um_ne (Ne.symm hne), um_ne hnh]; exact hf4)]
              refine sws_nil (sws_nil ⟨q2, by rw [um_ne (Ne.symm hth), um_ne (Ne.symm hq2h), um_same], by rw [um_ne hqtq, um_same]; rfl, ?_, ?_, (hf q2 hf1).2, hqtq, ?_, _, _, _, _, rfl⟩)
              · rw [um_same]
                show some (D4.C.lst (cu.2.map encG ++ [encG (m, stepG (goM rs n) cu.1 m)])) = some (D4.C.lst ((cu.2 ++ [(m, stepG (goM rs n) cu.1 m)]).map encG))
                rw [List.map_append]; rfl
              · cases e : M q2 with
                | none => rfl
                | some c =>
                  have := hkeep q2 c hq2h e
                  rw [um_ne hq2q, this] at hf3
                  cases hf3
              · intro x c hx e
                have e1 := hkeep x c hx e
                have h1 : x ≠ tq := fun e2 => by rw [e2, htM] at e; cases e
                have h2 : x ≠ q' := fun e2 => by rw [e2, hqM'] at e; cases e
                have h3 : x ≠ q2 := fun e2 => by
                  rw [e2] at e1
                  rw [um_ne hq2q, e1] at hf3; cases hf3
                rw [um_ne h1, um_ne h3, um_ne hx, um_ne h2]; exact e1
          · have hfm : [m].filter (isDue (goM rs n) bs) = [] := by rw [List.filter_cons, hc]; rfl
            rw [hfm, List.append_nil]; exact hmq
          · have hfm : [m].filter (isDue (goM rs n) bs) = [] := by rw [List.filter_cons, hc]; rfl
            rw [hfm, List.append_nil]; exact hmt
      · rintro M' δ' ⟨q', hmh, hmq, hmt, hqM', hq2', hqt', hkeep, o4, o5, o6, o7, rfl⟩
        rw [List.length_map, List.take_length] at hmq hmt
        have eR : (goS (goM rs n) bs ((sortK (keys bs)).filter (isDue (goM rs n) bs))) = goF rs n := by unfold goF; rw [hbase]; rfl
        rw [eR] at hmq hmt
        refine sws_cons (sw_ret (EW.less (EW.to (ev_var 3 rfl) ⟨_, ?_, hΦ q' tq ((hfr q').mpr hq2') ((hfr tq).mpr ht2) hqM' htM hqt'⟩)))
        intro x c e
        by_cases e1 : x = tq
        · subst e1; rw [um_same] at e; cases e; exact hmt
        · rw [um_ne e1] at e
          by_cases e2 : x = q'
          · subst e2; rw [um_same] at e; cases e; exact hmq
          · rw [um_ne e2] at e
            by_cases e3 : x = h
            · subst e3; rw [um_same] at e; cases e; exact hmh
            · rw [um_ne e3] at e; exact hkeep x c e3 e
end
end Ph
end

section
set_option maxHeartbeats 1000000
/-! M7: what is asked of a hall; hues at the fullest ends. Plain mathematics. -/
namespace Ph
open PySem L2 D4 K8
def ofHue (rs : Rows) (c : Int) : List Int := (sortK (keys rs)).filter fun n => decide (hueOf (rowOf rs n) = c)
def fullE (rs : Rows) (s : Nat) : List Int := sortK (((fullsD (endsOf rs s)).map (·.1)).filter fun e => decide ((endsOf rs s).count e = cntR (rs.map (·.2))))
theorem mem_ofHue {rs : Rows} {c n : Int} : n ∈ ofHue rs c ↔ n ∈ keys rs ∧ hueOf (rowOf rs n) = c := by
  unfold ofHue
  rw [List.mem_filter, mem_sortK, decide_eq_true_eq]
theorem ofHue_nd {rs : Rows} (hn : (keys rs).Nodup) (c : Int) : (ofHue rs c).Nodup := List.filter_sublist.nodup (sortK_nd hn)
theorem ofHue_len (rs : Rows) (c : Int) : (ofHue rs c).length ≤ rs.length := by
  have := List.length_filter_le (fun n => decide (hueOf (rowOf rs n) = c)) (sortK (keys rs))
  rw [(sortK_perm _).length_eq, keys_len] at this
  exact this
theorem mem_fullE {rs : Rows} {s : Nat} {e : Int} : e ∈ fullE rs s ↔ e ∈ endsOf rs s ∧ (endsOf rs s).count e = cntR (rs.map (·.2)) := by
  unfold fullE
  obtain ⟨l, hl1, hl2, hl3⟩ := fulls_eq (endsOf rs s)
  rw [mem_sortK, List.mem_filter, decide_eq_true_eq, hl3, List.map_map]
  have : (l.map ((fun x : Int × D => x.1) ∘ fun k => (k, D.int ((endsOf rs s).count k : Nat)))) = l := by
    rw [show ((fun x : Int × D => x.1) ∘ fun k => (k, D.int ((endsOf rs s).count k : Nat))) = id from rfl, List.map_id]
  rw [this, hl2]
theorem fullE_nd (rs : Rows) (s : Nat) : (fullE rs s).Nodup := by
  unfold fullE
  refine sortK_nd (List.filter_sublist.nodup ?_)
  obtain ⟨l, hl1, hl2, hl3⟩ := fulls_eq (endsOf rs s)
  rw [hl3, List.map_map]
  have : (l.map ((fun x : Int × D => x.1) ∘ fun k => (k, D.int ((endsOf rs s).count k : Nat)))) = l := by
    rw [show ((fun x : Int × D => x.1) ∘ fun k => (k, D.int ((endsOf rs s).count k : Nat))) = id from rfl, List.map_id]
  rw [this]; exact hl1
theorem fullE_sorted (rs : Rows) (s : Nat) : (fullE rs s).Pairwise (· ≤ ·) := sortK_le _
/-- at a fullest end each hue is had -/
theorem full_has {rs : Rows} {came : Int} (I : Inv rs came) {s : Nat} (hs : s < 2) {e : Int} (he : (endsOf rs s).count e = cntR (rs.map (·.2))) {c : Int} (h0 : 0 ≤ c) (h1 : c < cntR (rs.map (·.2))) : ∃ x ∈ rs, endOf s x.2 = e ∧ hueOf x.2 = c := by
  have hfit := I.fit
  generalize cntR (rs.map (·.2)) = many at he h1 hfit
  let F := rs.filter fun x => decide (endOf s x.2 = e)
  have hF : F.length = many := by
    rw [← he]
    show (rs.filter _).length = _
    unfold endsOf
    rw [List.count_eq_countP, List.countP_map, List.countP_eq_length_filter]
    congr 1
  have hnd : (F.map fun x => hueOf x.2).Nodup := by
    unfold List.Nodup
    rw [List.pairwise_map]
    have hk : rs.Nodup := by
      have := I.nd
      unfold keys List.Nodup at this
      rw [List.pairwise_map] at this
      exact this.imp fun h e => h (by rw [e])
    refine List.Pairwise.imp_of_mem (fun {a b} ha hb hab hh => hab ?_) (List.filter_sublist.nodup hk : F.Nodup)
    have ha' := List.mem_filter.mp ha
    have hb' := List.mem_filter.mp hb
    rw [decide_eq_true_eq] at ha' hb'
    exact I.proper a ha'.1 b hb'.1 s hs (ha'.2.trans hb'.2.symm) hh
  by_cases hc : c ∈ F.map fun x => hueOf x.2
  · obtain ⟨x, hx, e1⟩ := List.mem_map.mp hc
    have hx' := List.mem_filter.mp hx
    exact ⟨x, hx'.1, of_decide_eq_true hx'.2, e1⟩
  · exfalso
    have hsub : ∀ y ∈ F.map (fun x => hueOf x.2), y ∈ ((List.range many).map fun i : Nat => (i : Int)).filter fun y => decide (y ≠ c) := fun y hy => by
      rw [List.mem_filter, decide_eq_true_eq]
      refine ⟨?_, fun e1 => hc (e1 ▸ hy)⟩
      obtain ⟨x, hx, e1⟩ := List.mem_map.mp hy
      have := hfit x (List.mem_filter.mp hx).1
      exact List.mem_map.mpr ⟨y.toNat, List.mem_range.mpr (by omega), by omega⟩
    have h2 := nodup_len hnd hsub
    rw [List.length_map, hF] at h2
    have hR : (((List.range many).map fun i : Nat => (i : Int))).Nodup := by
      unfold List.Nodup
      rw [List.pairwise_map]
      exact List.Pairwise.imp (fun {a b} (h : a ≠ b) e => h (Int.ofNat_inj.mp e)) List.nodup_range
    have hcR : c ∈ ((List.range many).map fun i : Nat => (i : Int)) := List.mem_map.mpr ⟨c.toNat, List.mem_range.mpr (by omega), by omega⟩
    have h3 : (((List.range many).map fun i : Nat => (i : Int)).filter fun y => decide (y ≠ c)).length < many := by
      have h4 := List.length_filter_lt_length_iff_exists (l := (List.range many).map fun i : Nat => (i : Int)) (p := fun y => decide (y ≠ c))
      rw [List.length_map, List.length_range] at h4
      exact h4.mpr ⟨c, hcR, by simp⟩
    omega
/-- there is a fullest end, where there are pairs -/
theorem full_ex (rs : Rows) (h : 0 < cntR (rs.map (·.2))) : ∃ s < 2, ∃ e ∈ endsOf rs s, (endsOf rs s).count e = cntR (rs.map (·.2)) := by
  rw [cntR_ends] at h ⊢
  unfold cntOf at h ⊢
  by_cases c : deg (endsOf rs 0) ≤ deg (endsOf rs 1)
  · rw [Nat.max_eq_right c] at h ⊢
    rcases deg_mem (endsOf rs 1) with e | ⟨k, hk, e⟩
    · omega
    · exact ⟨1, by decide, k, hk, e.symm⟩
  · rw [Nat.max_eq_left (by omega)] at h ⊢
    rcases deg_mem (endsOf rs 0) with e | ⟨k, hk, e⟩
    · omega
    · exact ⟨0, by decide, k, hk, e.symm⟩
/-- pairs of one hue meet no end twice -/
theorem hue_ends {rs : Rows} {came : Int} (I : Inv rs came) {s : Nat} (hs : s < 2) (c : Int) : ((ofHue rs c).map fun n => endOf s (rowOf rs n)).Nodup := by
  unfold List.Nodup
  rw [List.pairwise_map]
  refine List.Pairwise.imp_of_mem (fun {a b} ha hb hab hh => hab ?_) (ofHue_nd I.nd c)
  have ha' := mem_ofHue.mp ha
  have hb' := mem_ofHue.mp hb
  have := I.proper _ (rowOf_mem ha'.1) _ (rowOf_mem hb'.1) s hs hh (ha'.2.trans hb'.2.symm)
  exact congrArg (fun x : Int × Row => x.1) this
theorem cnt_zero {rs : Rows} (h : cntR (rs.map (·.2)) = 0) : rs = [] := by
  cases rs with
  | nil => rfl
  | cons x rs =>
    exfalso
    have := cnt_ge (x :: rs) 0 (by decide) (endOf 0 x.2)
    have h1 : (endsOf (x :: rs) 0).count (endOf 0 x.2) = (endsOf rs 0).count (endOf 0 x.2) + 1 := by
      show ((endOf 0 x.2 :: endsOf rs 0)).count _ = _
      rw [List.count_cons_self]
    omega
/-! ### ends without hues -/
abbrev Tri := Int × Int × Int
def strip (rs : Rows) : List Tri := rs.map fun x => (x.1, x.2.1, x.2.2.1)
theorem strip_turn (rs : Rows) (ns : List Int) (a b : Int) : strip (turn rs ns a b) = strip rs := by
  unfold strip turn
  rw [List.map_map]
  refine List.map_congr_left fun x _ => ?_
  show ((if x.1 ∈ ns then (x.1, flip a b x.2) else x).1, (if x.1 ∈ ns then (x.1, flip a b x.2) else x).2.1, (if x.1 ∈ ns then (x.1, flip a b x.2) else x).2.2.1) = (x.1, x.2.1, x.2.2.1)
  split <;> rfl
theorem strip_given (rs : Rows) (l r : Int) (many : Nat) : strip (given rs l r many).rows = strip rs := by
  unfold given
  cases both rs l r many with
  | cons h t => rfl
  | nil =>
    cases ways rs l r many with
    | nil => rfl
    | cons w ws => exact strip_turn _ _ _ _
theorem strip_come {rs : Rows} {came : Int} (I : Inv rs came) (l r : Int) : strip (comeR rs came l r) = strip rs ++ [(came, l, r)] := by
  rw [comeR_eq I]
  unfold strip
  rw [List.map_append]
  show strip (comeG rs l r).rows ++ _ = _
  unfold comeG
  rw [strip_given]; rfl
theorem strip_keys (rs : Rows) : (strip rs).map (·.1) = keys rs := by unfold strip keys; rw [List.map_map]; rfl
theorem strip_nd {rs : Rows} (h : (keys rs).Nodup) : (strip rs).Nodup := by
  rw [← strip_keys] at h
  unfold List.Nodup at h ⊢
  rw [List.pairwise_map] at h
  exact h.imp fun h e => h (by rw [e])
theorem strip_drop (rs : Rows) (n : Int) : strip (dropR rs n) = (strip rs).filter fun x => decide (x.1 ≠ n) := by
  unfold strip dropR
  rw [List.filter_map]; rfl
theorem strip_gi {many : Nat} {base cur : Rows} {W : List Int} (G : GI many base cur W) (hb : (keys base).Nodup) : (strip cur).Perm (strip base) := by
  have key : ∀ x ∈ cur, (x.1, x.2.1, x.2.2.1) ∈ strip base := fun x hx => by
    obtain ⟨y, hy, e1, e2⟩ := G.ends x hx
    refine List.mem_map.mpr ⟨y, hy, ?_⟩
    have a := e2 0
    have b := e2 1
    have a : x.2.1 = y.2.1 := a
    have b : x.2.2.1 = y.2.2.1 := b
    rw [e1, a, b]
  refine (List.perm_ext_iff_of_nodup (strip_nd G.nd) (strip_nd hb)).mpr fun t => ⟨fun ht => ?_, fun ht => ?_⟩
  · obtain ⟨x, hx, rfl⟩ := List.mem_map.mp ht
    exact key x hx
  · obtain ⟨y, hy, rfl⟩ := List.mem_map.mp ht
    have hk : y.1 ∈ keys cur := (G.ks y.1).mpr (List.mem_map.mpr ⟨y, hy, rfl⟩)
    obtain ⟨x, hx, e⟩ := List.mem_map.mp hk
    obtain ⟨y', hy', e1, e2⟩ := G.ends x hx
    have : y' = y := by
      have a1 := look_of hb (show (y.1, y'.2) ∈ base by rw [← e, ← e1]; exact hy')
      rw [look_of hb (show (y.1, y.2) ∈ base from hy)] at a1
      obtain ⟨p, q⟩ := y
      obtain ⟨p', q'⟩ := y'
      have a2 : q = q' := Option.some.inj a1
      have a3 : p' = p := by rw [show p' = x.1 from e1]; exact e
      rw [a2, a3]
    subst this
    refine List.mem_map.mpr ⟨x, hx, ?_⟩
    have a : x.2.1 = y'.2.1 := e2 0
    have b : x.2.2.1 = y'.2.2.1 := e2 1
    rw [e, a, b]
theorem strip_go {rs : Rows} {came : Int} (I : Inv rs came) (n : Int) : (strip (goR rs n)).Perm ((strip rs).filter fun x => decide (x.1 ≠ n)) := by
  rw [← strip_drop]
  exact strip_gi (go_end I) (dropR_nd I.nd n)
theorem strip_ends (rs : Rows) (s : Nat) : endsOf rs s = (strip rs).map fun t => pick s t.2.1 t.2.2 := by
  unfold endsOf strip
  rw [List.map_map]
  refine List.map_congr_left fun x _ => ?_
  show endOf s x.2 = pick s x.2.1 x.2.2.1
  unfold endOf pick
  rfl
/-- when all pairs of a hue are gone, there is one hue fewer -/
theorem round_cnt {rs rs' : Rows} {came c : Int} (I : Inv rs came) (h0 : 0 ≤ c) (h1 : c < cntR (rs.map (·.2))) {L : List Int} (hL : L.Perm (ofHue rs c)) (hp : (strip rs').Perm ((strip rs).filter fun x => decide (x.1 ∉ L))) : cntR (rs'.map (·.2)) + 1 = cntR (rs.map (·.2)) := by
  have hrow : ∀ t ∈ strip rs, (t.1, rowOf rs t.1) ∈ rs ∧ ∀ s, pick s t.2.1 t.2.2 = endOf s (rowOf rs t.1) := fun t ht => by
    obtain ⟨x, hx, rfl⟩ := List.mem_map.mp ht
    have e := rowOf_of I.nd (show (x.1, x.2) ∈ rs from hx)
    show (x.1, rowOf rs x.1) ∈ rs ∧ ∀ s, pick s x.2.1 x.2.2.1 = endOf s (rowOf rs x.1)
    rw [e]
    exact ⟨hx, fun s => rfl⟩
  have key : ∀ s, s < 2 → ∀ e, (endsOf rs s).count e = (endsOf rs' s).count e + ((ofHue rs c).map fun n => endOf s (rowOf rs n)).count e := fun s hs e => by
    have e1 : (endsOf rs' s).count e = (((strip rs).filter fun x => decide (x.1 ∉ L)).map fun t => pick s t.2.1 t.2.2).count e := by
      rw [strip_ends]; exact (hp.map _).count_eq e
    have e2 : (((strip rs).filter fun x => decide (x.1 ∈ L)).map fun t => pick s t.2.1 t.2.2).Perm ((ofHue rs c).map fun n => endOf s (rowOf rs n)) := by
      have e3 : (((strip rs).filter fun x => decide (x.1 ∈ L)).map fun t => pick s t.2.1 t.2.2) = ((((strip rs).filter fun x => decide (x.1 ∈ L)).map fun t => t.1).map fun n => endOf s (rowOf rs n)) := by
        rw [List.map_map]
        refine List.map_congr_left fun t ht => ?_
        exact (hrow t (List.mem_filter.mp ht).1).2 s
      rw [e3]
      refine List.Perm.map _ ?_
      have hnd : (((strip rs).filter fun x => decide (x.1 ∈ L)).map fun t => t.1).Nodup := by
        have := I.nd
        rw [← strip_keys] at this
        exact (List.Sublist.map _ List.filter_sublist).nodup this
      refine (List.perm_ext_iff_of_nodup hnd (ofHue_nd I.nd c)).mpr fun n => ⟨fun h => ?_, fun h => ?_⟩
      · obtain ⟨t, ht, rfl⟩ := List.mem_map.mp h
        have := (List.mem_filter.mp ht).2
        exact hL.mem_iff.mp (of_decide_eq_true this)
      · have hk := (mem_ofHue.mp h).1
        rw [← strip_keys] at hk
        obtain ⟨t, ht, rfl⟩ := List.mem_map.mp hk
        exact List.mem_map.mpr ⟨t, List.mem_filter.mpr ⟨ht, decide_eq_true (hL.mem_iff.mpr h)⟩, rfl⟩
    rw [e1, ← e2.count_eq e, strip_ends]
    have e4 : (strip rs).Perm (((strip rs).filter fun x => decide (x.1 ∈ L)) ++ ((strip rs).filter fun x => !decide (x.1 ∈ L))) := (List.filter_append_perm _ _).symm
    have e5 := (e4.map fun t => pick s t.2.1 t.2.2).count_eq e
    rw [List.map_append, List.count_append] at e5
    rw [e5]
    have e6 : ((strip rs).filter fun x => !decide (x.1 ∈ L)) = (strip rs).filter fun x => decide (x.1 ∉ L) := by
      refine List.filter_congr fun x _ => ?_
      rw [decide_not]
    rw [e6, Nat.add_comm]
  have le1 : ∀ s, s < 2 → ∀ e, ((ofHue rs c).map fun n => endOf s (rowOf rs n)).count e ≤ 1 := fun s hs e => List.nodup_iff_count.mp (hue_ends I hs c) e
  have up : cntR (rs'.map (·.2)) ≤ cntR (rs.map (·.2)) - 1 := by
    by_cases hz : 0 < cntR (rs'.map (·.2))
    · obtain ⟨s, hs, e, he, hc⟩ := full_ex rs' hz
      have k := key s hs e
      have g := cnt_ge rs s hs e
      by_cases hf : (endsOf rs s).count e = cntR (rs.map (·.2))
      · obtain ⟨x, hx, x1, x2⟩ := full_has I hs hf h0 h1
        have hm : e ∈ (ofHue rs c).map fun n => endOf s (rowOf rs n) := by
          refine List.mem_map.mpr ⟨x.1, mem_ofHue.mpr ⟨List.mem_map.mpr ⟨x, hx, rfl⟩, ?_⟩, ?_⟩
          · rw [rowOf_of I.nd (show (x.1, x.2) ∈ rs from hx)]; exact x2
          · rw [rowOf_of I.nd (show (x.1, x.2) ∈ rs from hx)]; exact x1
        have := List.count_pos_iff.mpr hm
        omega
      · omega
    · omega
  have lo : cntR (rs.map (·.2)) - 1 ≤ cntR (rs'.map (·.2)) := by
    obtain ⟨s, hs, e, he, hc⟩ := full_ex rs (by omega)
    have k := key s hs e
    have g := cnt_ge rs' s hs e
    have := le1 s hs e
    omega
  omega
end Ph
end

section
set_option maxHeartbeats 1000000
/-! M9: hues by number, changed as told; the hues that meet an end. Plain mathematics. -/
namespace Ph
open PySem L2 D4 K8
abbrev Hs := List (Int × Int)
def encH (hs : Hs) : List (Int × D) := hs.map fun p => (p.1, D.int p.2)
def setH (hs : Hs) (n v : Int) : Hs := if n ∈ hs.map (·.1) then hs.map (fun p => if p.1 = n then (p.1, v) else p) else hs ++ [(n, v)]
theorem encH_len (hs : Hs) : (encH hs).length = hs.length := List.length_map _
theorem encH_put (hs : Hs) (n v : Int) : putD (encH hs) n (.int v) = encH (setH hs n v) := by
  unfold putD setH
  have : ((encH hs).any fun kv => decide (kv.1 = n)) = decide (n ∈ hs.map (·.1)) := by
    unfold encH
    rw [List.any_map, Bool.eq_iff_iff, List.any_eq_true, decide_eq_true_eq, List.mem_map]
    constructor
    · rintro ⟨x, hx, e⟩
      exact ⟨x, hx, of_decide_eq_true e⟩
    · rintro ⟨x, hx, e⟩
      exact ⟨x, hx, decide_eq_true e⟩
  rw [this]
  by_cases h : n ∈ hs.map (·.1)
  · rw [decide_eq_true h, if_pos rfl, if_pos h]
    unfold encH
    rw [List.map_map, List.map_map]
    refine List.map_congr_left fun p _ => ?_
    show (if p.1 = n then (p.1, D.int v) else (p.1, D.int p.2)) = ((if p.1 = n then (p.1, v) else p).1, D.int (if p.1 = n then (p.1, v) else p).2)
    split <;> rfl
  · rw [decide_eq_false h, if_neg (by decide), if_neg h]
    unfold encH
    rw [List.map_append]; rfl
theorem encH_look {hs : Hs} (hn : (hs.map (·.1)).Nodup) {n c : Int} (h : (n, c) ∈ hs) : lookD (encH hs) n = some (.int c) := by
  unfold lookD encH
  induction hs with
  | nil => cases h
  | cons x hs ih =>
    rw [List.map_cons, List.find?_cons]
    rw [List.map_cons, List.nodup_cons] at hn
    by_cases e : x.1 = n
    · have : x = (n, c) := by
        rcases List.mem_cons.mp h with h | h
        · exact h.symm
        · exact absurd (show x.1 ∈ hs.map (·.1) by rw [e]; exact List.mem_map.mpr ⟨_, h, rfl⟩) hn.1
      subst this
      simp
    · have hm : (n, c) ∈ hs := by
        rcases List.mem_cons.mp h with h | h
        · exact absurd (by rw [← h]) e
        · exact h
      simp only [decide_eq_false e]
      exact ih hn.2 hm
theorem setH_keys (hs : Hs) (n v : Int) : (setH hs n v).map (·.1) = if n ∈ hs.map (·.1) then hs.map (·.1) else hs.map (·.1) ++ [n] := by
  unfold setH
  split
  · rw [List.map_map]
    refine List.map_congr_left fun p _ => ?_
    show (if p.1 = n then (p.1, v) else p).1 = p.1
    split <;> rfl
  · rw [List.map_append]; rfl
theorem setH_nd {hs : Hs} (h : (hs.map (·.1)).Nodup) (n v : Int) : ((setH hs n v).map (·.1)).Nodup := by
  rw [setH_keys]
  split
  · exact h
  · rename_i hn
    rw [List.nodup_append]
    exact ⟨h, by simp, fun a ha b hb e => hn (by rw [← List.mem_singleton.mp hb, ← e]; exact ha)⟩
theorem setH_len (hs : Hs) (n v : Int) : (setH hs n v).length ≤ hs.length + 1 := by
  unfold setH
  split
  · rw [List.length_map]; omega
  · rw [List.length_append]; exact Nat.le_refl _
theorem setH_mem {hs : Hs} {n v m c : Int} : (m, c) ∈ setH hs n v ↔ (m = n ∧ c = v) ∨ (m ≠ n ∧ (m, c) ∈ hs) := by
  unfold setH
  split
  · rename_i hn
    rw [List.mem_map]
    constructor
    · rintro ⟨p, hp, e⟩
      by_cases hpn : p.1 = n
      · rw [if_pos hpn] at e
        cases e
        exact .inl ⟨hpn, rfl⟩
      · rw [if_neg hpn] at e
        subst e
        exact .inr ⟨hpn, hp⟩
    · rintro (⟨rfl, rfl⟩ | ⟨h1, h2⟩)
      · obtain ⟨p, hp, e⟩ := List.mem_map.mp hn
        exact ⟨p, hp, by rw [if_pos e, e]⟩
      · exact ⟨_, h2, if_neg h1⟩
  · rename_i hn
    rw [List.mem_append, List.mem_singleton]
    constructor
    · rintro (h | h)
      · refine .inr ⟨fun e => hn ?_, h⟩
        rw [← e]; exact List.mem_map.mpr ⟨_, h, rfl⟩
      · cases h; exact .inl ⟨rfl, rfl⟩
    · rintro (⟨rfl, rfl⟩ | ⟨_, h⟩)
      · exact .inr rfl
      · exact .inl h
/-- the hues of these rows -/
structure HOf (hs : Hs) (rs : Rows) : Prop where
  nd : (hs.map (·.1)).Nodup
  mem : ∀ n c, (n, c) ∈ hs ↔ ∃ x ∈ rs, x.1 = n ∧ hueOf x.2 = c
theorem hs_nd {hs : Hs} (h : (hs.map (·.1)).Nodup) : hs.Nodup := by
  unfold List.Nodup at h ⊢
  rw [List.pairwise_map] at h
  exact h.imp fun h e => h (by rw [e])
theorem HOf.perm {hs qs : Hs} {rs : Rows} (h : HOf hs rs) (q : HOf qs rs) : hs.Perm qs :=
  (List.perm_ext_iff_of_nodup (hs_nd h.nd) (hs_nd q.nd)).mpr fun p => (h.mem p.1 p.2).trans (q.mem p.1 p.2).symm
/-- numbers with the hues of these rows -/
def huesAt (rs : Rows) (ks : List Int) : Hs := ks.map fun n => (n, hueOf (rowOf rs n))
theorem huesAt_keys (rs : Rows) (ks : List Int) : (huesAt rs ks).map (·.1) = ks := by
  unfold huesAt; rw [List.map_map]
  show ks.map id = ks
  exact List.map_id _
theorem huesAt_of {rs qs : Rows} {ks : List Int} (hn : (keys rs).Nodup) (hk : ks.Nodup) (h : ∀ x, x ∈ qs ↔ x ∈ rs ∧ x.1 ∈ ks) (hs : ∀ n ∈ ks, n ∈ keys rs) : HOf (huesAt rs ks) qs := by
  refine ⟨by rw [huesAt_keys]; exact hk, fun n c => ?_⟩
  unfold huesAt
  rw [List.mem_map]
  constructor
  · rintro ⟨m, hm, e⟩
    cases e
    exact ⟨_, (h _).mpr ⟨rowOf_mem (hs n hm), hm⟩, rfl, rfl⟩
  · rintro ⟨x, hx, rfl, rfl⟩
    obtain ⟨h1, h2⟩ := (h x).mp hx
    exact ⟨x.1, h2, by rw [rowOf_of hn (show (x.1, x.2) ∈ rs from h1)]⟩
/-- what one told row changes -/
structure TStep (rs0 : Rows) (n : Int) (g : Gv) (rs1 : Rows) : Prop where
  nd : (keys rs0).Nodup
  none : g.other = none → g.ns = []
  nsnd : g.ns.Nodup
  some : ∀ o, g.other = some o → ∀ m ∈ g.ns, ∃ x ∈ rs0, x.1 = m ∧ (hueOf x.2 = g.hue ∨ hueOf x.2 = o)
  mem : ∀ m c, (∃ x ∈ rs1, x.1 = m ∧ hueOf x.2 = c) ↔ (m = n ∧ c = g.hue) ∨ (m ≠ n ∧ ∃ x ∈ rs0, x.1 = m ∧ c = if m ∈ g.ns then g.hue + g.other.getD 0 - hueOf x.2 else hueOf x.2)
theorem key_uniq {rs : Rows} (hn : (keys rs).Nodup) {x y : Int × Row} (hx : x ∈ rs) (hy : y ∈ rs) (h : x.1 = y.1) : x = y := by
  have a1 := look_of hn (show (x.1, x.2) ∈ rs from hx)
  have a2 := look_of hn (show (y.1, y.2) ∈ rs from hy)
  rw [h, a2] at a1
  obtain ⟨p, q⟩ := x
  obtain ⟨p', q'⟩ := y
  have a3 : q' = q := Option.some.inj a1
  have h : p = p' := h
  rw [h, a3]
theorem tstep_of {rs0 : Rows} {n l r : Int} {many : Nat} {g : Gv} (hn : (keys rs0).Nodup) (G : GvG (dropR rs0 n) l r many g) : TStep rs0 n g (g.rows ++ [(n, l, r, g.hue)]) := by
  have hq := dropR_nd hn n
  have key : ∀ m c, (∃ x ∈ g.rows, x.1 = m ∧ hueOf x.2 = c) ↔ (m ≠ n ∧ ∃ x ∈ rs0, x.1 = m ∧ c = if m ∈ g.ns then g.hue + g.other.getD 0 - hueOf x.2 else hueOf x.2) := fun m c => by
    rcases G.turned with ⟨e1, e2, e3⟩ | ⟨o, e1, _, _, e3, e4, e5⟩
    · rw [e3, e2]
      constructor
      · rintro ⟨x, hx, rfl, rfl⟩
        have := dropR_mem.mp hx
        exact ⟨this.2, x, this.1, rfl, by rw [if_neg (by simp)]⟩
      · rintro ⟨h1, x, hx, rfl, h2⟩
        rw [if_neg (by simp)] at h2
        exact ⟨x, dropR_mem.mpr ⟨hx, h1⟩, rfl, h2.symm⟩
    · rw [e3, e1]
      unfold turn
      have flipE : ∀ x ∈ dropR rs0 n, x.1 ∈ g.ns → hueOf (flip g.hue o x.2) = g.hue + o - hueOf x.2 := fun x hx hm => by
        obtain ⟨y, hy, h1, h2⟩ := e5 x.1 hm
        have : y = x := key_uniq hq hy hx h1
        subst this
        show (if hueOf y.2 = o then g.hue else o) = _
        rcases h2 with h2 | h2
        · rw [h2]; split <;> omega
        · rw [h2, if_pos rfl]; omega
      constructor
      · rintro ⟨x, hx, rfl, rfl⟩
        obtain ⟨y, hy, rfl⟩ := List.mem_map.mp hx
        have hy' := dropR_mem.mp hy
        by_cases hm : y.1 ∈ g.ns
        · rw [if_pos hm]
          exact ⟨hy'.2, y, hy'.1, rfl, by rw [if_pos hm]; exact flipE y hy hm⟩
        · rw [if_neg hm]
          exact ⟨hy'.2, y, hy'.1, rfl, by rw [if_neg hm]⟩
      · rintro ⟨h1, y, hy, rfl, h2⟩
        have hy' : y ∈ dropR rs0 n := dropR_mem.mpr ⟨hy, h1⟩
        refine ⟨_, List.mem_map.mpr ⟨y, hy', rfl⟩, ?_⟩
        by_cases hm : y.1 ∈ g.ns
        · rw [if_pos hm] at h2 ⊢
          exact ⟨rfl, (flipE y hy' hm).trans h2.symm⟩
        · rw [if_neg hm] at h2 ⊢
          exact ⟨rfl, h2.symm⟩
  refine ⟨hn, fun h => ?_, ?_, fun o h m hm => ?_, fun m c => ?_⟩
  · rcases G.turned with ⟨_, e2, _⟩ | ⟨o, e1, _⟩
    · exact e2
    · rw [h] at e1; cases e1
  · rcases G.turned with ⟨_, e2, _⟩ | ⟨o, _, _, _, _, e4, _⟩
    · rw [e2]; exact List.nodup_nil
    · exact e4
  · rcases G.turned with ⟨_, e2, _⟩ | ⟨o', e1, _, _, _, _, e5⟩
    · rw [e2] at hm; cases hm
    · rw [h] at e1; cases e1
      obtain ⟨x, hx, h1, h2⟩ := e5 m hm
      exact ⟨x, (dropR_mem.mp hx).1, h1, h2⟩
  · rw [← key]
    constructor
    · rintro ⟨x, hx, h1, h2⟩
      rcases List.mem_append.mp hx with hx | hx
      · exact .inr ⟨x, hx, h1, h2⟩
      · rw [List.mem_singleton.mp hx] at h1 h2
        exact .inl ⟨h1.symm, h2.symm⟩
    · rintro (⟨rfl, rfl⟩ | ⟨x, hx, h1, h2⟩)
      · exact ⟨_, List.mem_append_right _ (List.mem_singleton.mpr rfl), rfl, rfl⟩
      · exact ⟨x, List.mem_append_left _ hx, h1, h2⟩
/-- the told rows, one by one -/
def Steps (R : Nat → Rows) (gs : List (Int × Gv)) : Prop := ∀ (i : Nat) (p : Int × Gv), gs[i]? = some p → TStep (R i) p.1 p.2 (R (i + 1))
theorem dropR_new {rs : Rows} {n : Int} (h : n ∉ keys rs) : dropR rs n = rs := by
  unfold dropR
  rw [List.filter_eq_self]
  intro x hx
  exact decide_eq_true fun e => h (by rw [← e]; exact List.mem_map.mpr ⟨x, hx, rfl⟩)
theorem steps_come {rs : Rows} {came : Int} (I : Inv rs came) (l r : Int) : Steps (fun i => if i = 0 then rs else comeR rs came l r) [(came, comeG rs l r)] := by
  intro i p h
  cases i with
  | succ i => cases h
  | zero =>
    cases h
    have hk : came ∉ keys rs := fun h => by have := I.below came h; omega
    show TStep rs came (comeG rs l r) (comeR rs came l r)
    rw [comeR_eq I]
    refine tstep_of I.nd (l := l) (r := r) (many := manyOf rs l r) ?_
    rw [dropR_new hk]
    exact given_gen I.proper I.nd (many_l rs l r) (many_r rs l r)
theorem goSp (many : Nat) (rs : Rows) (P : List Int) : ∀ R : List Int, ∃ T, (goS many rs (P ++ R)).2 = (goS many rs P).2 ++ T := by
  intro R
  induction hR : R.length generalizing R with
  | zero => rw [List.length_eq_zero_iff.mp hR]; exact ⟨[], by rw [List.append_nil, List.append_nil]⟩
  | succ k ih =>
    rcases List.eq_nil_or_concat R with h | ⟨Q, n, h⟩
    · subst h; cases hR
    · rw [List.concat_eq_append] at h
      subst h
      have hQ : Q.length = k := by rw [List.length_append] at hR; simpa using hR
      obtain ⟨T, e⟩ := ih Q hQ
      refine ⟨T ++ [(n, stepG many (goS many rs (P ++ Q)).1 n)], ?_⟩
      rw [← List.append_assoc, goS_snoc]
      show (goS many rs (P ++ Q)).2 ++ [(n, stepG many (goS many rs (P ++ Q)).1 n)] = _
      rw [e, List.append_assoc]
theorem goSg (many : Nat) (rs : Rows) {ns : List Int} {i : Nat} {m : Int} (h : ns[i]? = some m) : (goS many rs ns).2[i]? = some (m, stepG many (goS many rs (ns.take i)).1 m) := by
  obtain ⟨T, e⟩ := goSp many rs (ns.take (i + 1)) (ns.drop (i + 1))
  rw [List.take_append_drop] at e
  rw [e, take_snoc h, goS_snoc]
  have hl := goS_len many rs (ns.take i)
  have hi := (List.getElem?_eq_some_iff.mp h).1
  rw [List.length_take, Nat.min_eq_left (by omega)] at hl
  show (((goS many rs (ns.take i)).2 ++ [_]) ++ T)[i]? = _
  rw [List.append_assoc, List.getElem?_append_right (by omega), hl, Nat.sub_self]
  rfl
theorem steps_go {rs : Rows} {came n : Int} (I : Inv rs came) : Steps (fun i => (goS (goM rs n) (dropR rs n) ((dueL (goM rs n) (dropR rs n)).take i)).1) (goT rs n) := by
  intro i p h
  have hl : (goT rs n).length = (dueL (goM rs n) (dropR rs n)).length := goS_len _ _ _
  have hi := (List.getElem?_eq_some_iff.mp h).1
  obtain ⟨m, hm⟩ : ∃ m, (dueL (goM rs n) (dropR rs n))[i]? = some m := ⟨_, List.getElem?_eq_getElem (by omega)⟩
  have hg := goSg (goM rs n) (dropR rs n) hm
  have hg' : (goT rs n)[i]? = _ := hg
  rw [h] at hg'
  cases hg'
  have hil := (List.getElem?_eq_some_iff.mp hm).1
  have hsplit : dueL (goM rs n) (dropR rs n) = (dueL (goM rs n) (dropR rs n)).take i ++ (m :: (dueL (goM rs n) (dropR rs n)).drop (i + 1)) := by
    have e2 : (dueL (goM rs n) (dropR rs n)).drop i = m :: (dueL (goM rs n) (dropR rs n)).drop (i + 1) := by
      rw [List.drop_eq_getElem_cons hil, (List.getElem?_eq_some_iff.mp hm).2]
    rw [← e2, List.take_append_drop]
  have G := go_at (n := n) I hsplit
  have hb : ∀ s, s < 2 → ∀ e, (endsOf (dropR rs n) s).count e ≤ goM rs n := fun s hs e => cnt_ge _ s hs e
  have hk : m ∈ keys (goS (goM rs n) (dropR rs n) ((dueL (goM rs n) (dropR rs n)).take i)).1 := (G.ks m).mpr (mem_due.mp (List.mem_of_getElem? hm)).1
  show TStep (goS _ _ _).1 m (stepG _ _ _) (goS _ _ _).1
  rw [take_snoc hm, goS_snoc]
  show TStep (goS _ _ _).1 m (stepG _ _ _) (stepR _ _ _)
  rw [stepR_eq G hb hk]
  exact tstep_of G.nd (step_given G hb hk)
/-! ### the hues that meet an end, as they are looked at -/
def hkL (L : List (List Int × Int)) (k : List Int) : List Int := (L.filter fun x => decide (x.1 = k)).map (·.2)
theorem hkL_snoc (L : List (List Int × Int)) (k : List Int) (c : Int) (k' : List Int) : hkL (L ++ [(k, c)]) k' = hkL L k' ++ if k = k' then [c] else [] := by
  unfold hkL
  rw [List.filter_append, List.map_append]
  congr 1
  by_cases h : k = k'
  · rw [if_pos h, List.filter_cons, if_pos (decide_eq_true h)]; rfl
  · rw [if_neg h, List.filter_cons, if_neg (by simpa using h)]; rfl
def rowK (rs : Rows) (n : Int) : List (List Int × Int) := [([0, (rowOf rs n).1], hueOf (rowOf rs n)), ([1, (rowOf rs n).2.1], hueOf (rowOf rs n))]
def allK (rs : Rows) (ns : List Int) : List (List Int × Int) := ns.flatMap (rowK rs)
theorem allK_snoc (rs : Rows) (ns : List Int) (n : Int) : allK rs (ns ++ [n]) = allK rs ns ++ rowK rs n := by
  unfold allK
  rw [List.flatMap_append]
  simp
theorem mem_allK {rs : Rows} {ns : List Int} {k : List Int} {c : Int} : (k, c) ∈ allK rs ns ↔ ∃ n ∈ ns, c = hueOf (rowOf rs n) ∧ ∃ s < 2, k = [((s : Nat) : Int), endOf s (rowOf rs n)] := by
  unfold allK rowK
  rw [List.mem_flatMap]
  refine exists_congr fun n => and_congr_right fun _ => ?_
  constructor
  · intro h
    rcases List.mem_cons.mp h with h | h
    · cases h; exact ⟨rfl, 0, by decide, rfl⟩
    · cases List.mem_singleton.mp h; exact ⟨rfl, 1, by decide, rfl⟩
  · rintro ⟨rfl, s, hs, rfl⟩
    rcases (show s = 0 ∨ s = 1 by omega) with rfl | rfl
    · exact List.mem_cons_self
    · exact List.mem_cons_of_mem _ List.mem_cons_self
theorem mem_hkL {L : List (List Int × Int)} {k : List Int} {c : Int} : c ∈ hkL L k ↔ (k, c) ∈ L := by
  unfold hkL
  rw [List.mem_map]
  constructor
  · rintro ⟨x, hx, rfl⟩
    obtain ⟨h1, h2⟩ := List.mem_filter.mp hx
    rw [← of_decide_eq_true h2]; exact h1
  · intro h
    exact ⟨_, List.mem_filter.mpr ⟨h, decide_eq_true rfl⟩, rfl⟩
/-- a hue that comes again at an end: the pair was seen already -/
theorem hk_new {rs : Rows} (P : Proper rs) {ns : List Int} {n : Int} (hns : ∀ m ∈ ns, m ∈ keys rs) (hn : n ∈ keys rs) (hnew : n ∉ ns) {s : Nat} (hs : s < 2) : hueOf (rowOf rs n) ∉ hkL (allK rs ns) [((s : Nat) : Int), endOf s (rowOf rs n)] := by
  rw [mem_hkL, mem_allK]
  rintro ⟨m, hm, h1, s', hs', h2⟩
  have e1 : ((s : Nat) : Int) = (s' : Nat) := (List.cons.inj h2).1
  have e2 : s = s' := by omega
  subst e2
  have e3 : endOf s (rowOf rs n) = endOf s (rowOf rs m) := (List.cons.inj (List.cons.inj h2).2).1
  have := P _ (rowOf_mem hn) _ (rowOf_mem (hns m hm)) s hs e3 h1
  have : n = m := congrArg (fun x : Int × Row => x.1) this
  exact hnew (by rw [this]; exact hm)
theorem hk_nd {rs : Rows} (P : Proper rs) : ∀ {ns : List Int}, ns.Nodup → (∀ m ∈ ns, m ∈ keys rs) → ∀ k, (hkL (allK rs ns) k).Nodup := by
  intro ns
  induction h : ns.length generalizing ns with
  | zero =>
    intro _ _ k
    rw [List.length_eq_zero_iff.mp h]
    exact List.nodup_nil
  | succ j ih =>
    intro hnd hk k
    rcases List.eq_nil_or_concat ns with e | ⟨Q, n, e⟩
    · subst e; cases h
    · rw [List.concat_eq_append] at e
      subst e
      have hQ : Q.length = j := by rw [List.length_append] at h; simpa using h
      have hnd' := List.nodup_append.mp hnd
      have hQn : n ∉ Q := fun hm => hnd'.2.2 n hm n (List.mem_singleton.mpr rfl) rfl
      have hkQ : ∀ m ∈ Q, m ∈ keys rs := fun m hm => hk m (List.mem_append_left _ hm)
      have hkn : n ∈ keys rs := hk n (List.mem_append_right _ (List.mem_singleton.mpr rfl))
      have i1 := ih hQ hnd'.1 hkQ k
      rw [allK_snoc]
      show (hkL (allK rs Q ++ [([0, (rowOf rs n).1], hueOf (rowOf rs n)), ([1, (rowOf rs n).2.1], hueOf (rowOf rs n))]) k).Nodup
      rw [show allK rs Q ++ [([0, (rowOf rs n).1], hueOf (rowOf rs n)), ([1, (rowOf rs n).2.1], hueOf (rowOf rs n))] = (allK rs Q ++ [([0, (rowOf rs n).1], hueOf (rowOf rs n))]) ++ [([1, (rowOf rs n).2.1], hueOf (rowOf rs n))] by rw [List.append_assoc]; rfl, hkL_snoc, hkL_snoc]
      have c0 := hk_new P hkQ hkn hQn (s := 0) (by decide)
      have c1 := hk_new P hkQ hkn hQn (s := 1) (by decide)
      have c0 : hueOf (rowOf rs n) ∉ hkL (allK rs Q) [0, (rowOf rs n).1] := c0
      have c1 : hueOf (rowOf rs n) ∉ hkL (allK rs Q) [1, (rowOf rs n).2.1] := c1
      by_cases h0 : ([0, (rowOf rs n).1] : List Int) = k
      · have h1 : ¬ ([1, (rowOf rs n).2.1] : List Int) = k := fun e => by rw [← e] at h0; injection h0 with a _; exact absurd a (by decide)
        rw [if_pos h0, if_neg h1, List.append_nil, List.nodup_append]
        refine ⟨i1, by simp, fun a ha b hb e => ?_⟩
        rw [List.mem_singleton.mp hb] at e
        rw [h0, ← e] at c0
        exact c0 ha
      · rw [if_neg h0, List.append_nil]
        by_cases h1 : ([1, (rowOf rs n).2.1] : List Int) = k
        · rw [if_pos h1, List.nodup_append]
          refine ⟨i1, by simp, fun a ha b hb e => ?_⟩
          rw [List.mem_singleton.mp hb] at e
          rw [h1, ← e] at c1
          exact c1 ha
        · rw [if_neg h1, List.append_nil]; exact i1
def rangeI (m : Nat) : List Int := (List.range m).map fun i : Nat => (i : Int)
theorem rangeI_nd (m : Nat) : (rangeI m).Nodup := by
  unfold rangeI List.Nodup
  rw [List.pairwise_map]
  exact List.nodup_range.imp fun h e => h (by omega)
theorem mem_rangeI {m : Nat} {c : Int} : c ∈ rangeI m ↔ 0 ≤ c ∧ c < m := by
  unfold rangeI
  rw [List.mem_map]
  constructor
  · rintro ⟨i, hi, rfl⟩
    have := List.mem_range.mp hi
    omega
  · rintro ⟨h1, h2⟩
    exact ⟨c.toNat, List.mem_range.mpr (by omega), by omega⟩
theorem rangeI_le (m : Nat) : (rangeI m).Pairwise (· ≤ ·) := by
  unfold rangeI
  rw [List.pairwise_map]
  exact List.pairwise_lt_range.imp fun h => by omega
/-- at a fullest end each hue is had -/
theorem hk_full {rs : Rows} {came : Int} (I : Inv rs came) {s : Nat} (hs : s < 2) {e : Int} (he : (endsOf rs s).count e = cntR (rs.map (·.2))) : (rangeI (cntR (rs.map (·.2)))).Perm (hkL (allK rs (sortK (keys rs))) [((s : Nat) : Int), e]) := by
  refine (List.perm_ext_iff_of_nodup (rangeI_nd _) (hk_nd I.proper (sortK_nd I.nd) (fun m hm => mem_sortK.mp hm) _)).mpr fun c => ?_
  rw [mem_rangeI, mem_hkL, mem_allK]
  constructor
  · rintro ⟨h0, h1⟩
    obtain ⟨x, hx, x1, x2⟩ := full_has I hs he h0 h1
    have er := rowOf_of I.nd (show (x.1, x.2) ∈ rs from hx)
    exact ⟨x.1, mem_sortK.mpr (List.mem_map.mpr ⟨x, hx, rfl⟩), by rw [er]; exact x2.symm, s, hs, by rw [er, x1]⟩
  · rintro ⟨n, hn, rfl, _⟩
    exact I.fit _ (rowOf_mem (mem_sortK.mp hn))
end Ph
end

section
set_option maxRecDepth 100000
set_option maxHeartbeats 4000000
/-! D5h: sorted lists that may change, dict(pairs), len(set(ints)), xs[::-1], a tuple of two lists frozen. -/
namespace D4
open PySem L2
section
variable {X : Cx} {b : Bs} {δ : Od} {M : Mp} {e e1 e2 : Expr} {es : List Expr} {Φ : Mp → D → Prop} {Ψ : Xs} {d d1 d2 : D} {xs ys ds : List D} {pos p p2 p3 : Pos} {K : Fg} {G : Hp}
theorem c_sortedN {ns ms : List Int} (hp : ms.Perm ns) (hs : ms.Pairwise (· ≤ ·)) (hl : ns.length < 64) (h : ∀ q, M q = none → Nw b q → Φ (um M q (.lst (ms.map D.int))) (.loc (.ref q))) : CW X b (.builtin "sorted") M [.lst (ns.map D.int)] Φ := cw_of cr_sorted fun R mR vs H G Q S z r k => by
  obtain ⟨v, rfl, h'⟩ := reps1 r
  obtain ⟨a, ws, rfl, ha, rs⟩ := Rep.lst_iff.mp h'
  have e := rs.ints
  subst e
  refine ⟨a, ns, rfl, SqL.of (S.gh _ _ ha), hl, fun ns' l q1 q2 hn => ?_⟩
  obtain ⟨n1, n2, n3⟩ := S.new hn
  have e : ns' = ms := pw_unique (q1.trans hp.symm) q2 hs
  subst e
  exact k _ _ _ _ (h l n1 n2) ⟨G, S.cell (c := .lst (ns'.map D.int)) hn ⟨_, rfl, .of_ints ns'⟩, z, Rep.loc_iff.mpr rfl⟩
theorem mergeK_nd : ∀ (ws acc : List (Key × V)), ((acc ++ ws).map (·.1)).Nodup → mergeK acc ws = acc ++ ws
  | [], acc, _ => by rw [List.append_nil]; rfl
  | w :: ws, acc, h => by
    have h2 : putK acc w.1 w.2 = acc ++ [w] := by
      unfold putK
      have hno : (acc.any fun kv => decide (kv.1 = w.1)) = false := by
        rw [Bool.eq_false_iff]
        intro hh
        obtain ⟨x, hx, e⟩ := List.any_eq_true.mp hh
        rw [decide_eq_true_eq] at e
        rw [List.map_append, List.map_cons, List.nodup_append] at h
        exact h.2.2 x.1 (List.mem_map.mpr ⟨x, hx, rfl⟩) w.1 List.mem_cons_self e
      rw [hno]
      rfl
    show mergeK (putK acc w.1 w.2) ws = _
    rw [h2, mergeK_nd ws (acc ++ [w]) (by rw [List.append_assoc]; exact h), List.append_assoc]
    rfl
theorem reps_pairs {G H : Hp} (e : Same G H) : ∀ {kvs : List (Int × D)} {vs : List V}, Reps K G (kvs.map fun kv => .tup [.int kv.1, kv.2]) vs → ∃ (ps : List Addr) (ws : List (Key × V)), vs = ps.map V.ref ∧ Paired (fun p kv => SqT K H p [kV kv.1, kv.2]) ps ws ∧ RepI K G kvs ws
  | [], vs, h => ⟨[], [], h.nil_inv, .nil, .nil⟩
  | kv :: kvs, vs, h => by
    obtain ⟨v, r, e1, h1, t⟩ := Reps.cons_inv h
    obtain ⟨a, us, rfl, ha, ru⟩ := Rep.tup_iff.mp h1
    obtain ⟨u1, r1, e2, h2, t2⟩ := ru.cons_inv
    obtain ⟨u2, r2, e3, h3, t3⟩ := t2.cons_inv
    have e4 := t3.nil_inv
    have e5 := Rep.int_iff.mp h2
    subst e5 e4 e3 e2 e1
    obtain ⟨ps, ws, q1, q2, q3⟩ := reps_pairs e t
    subst q1
    exact ⟨a :: ps, (keyI kv.1, u2) :: ws, rfl, .cons (SqT.of (e _ _ ha)) q2, .cons ⟨rfl, h3⟩ q3⟩
/-- dict(list of pairs), no key twice -/
theorem c_dictP {kvs : List (Int × D)} (hc : X.calm = true) (hn : (kvs.map (·.1)).Nodup) (h : ∀ q, M q = none → Nw b q → Φ (um M q (.dI kvs)) (.loc (.ref q))) : CW X b (.type "dict") M [.lst (kvs.map fun kv => .tup [.int kv.1, kv.2])] Φ := cw_of (call_dictP hc) fun R mR vs H G Q S z r k => by
  obtain ⟨v, rfl, h'⟩ := reps1 r
  obtain ⟨a, us, rfl, ha, rs⟩ := Rep.lst_iff.mp h'
  obtain ⟨ps, ws, e1, q2, q3⟩ := reps_pairs S.gh rs
  subst e1
  refine ⟨a, ps, ws, rfl, SqL.of (S.gh _ _ ha), q2, fun q hq => ?_⟩
  have hk : (ws.map (·.1)).Nodup := by
    rw [(RepK.keys (f := keyI) q3 : ws.map (·.1) = (kvs.map (fun kv : Int × D => kv.1)).map keyI)]
    unfold List.Nodup at hn ⊢
    rw [List.pairwise_map]
    exact hn.imp fun h e => h (keyI_inj _ _ e)
  rw [mergeK_nd ws [] hk, List.nil_append]
  obtain ⟨n1, n2, n3⟩ := S.new hq
  exact k _ _ _ _ (h q n1 n2) ⟨G, S.cell (c := .dI kvs) hq ⟨ws, rfl, q3⟩, z, Rep.loc_iff.mpr rfl⟩
theorem ev_lenSet {ns : List Int} (hc : X.calm = true) (hg : Gl X "len") (hm : X.mg "len" = none) (hg2 : Gl X "set") (hm2 : X.mg "set" = none) (h : EV X b δ M e d) (la : LA M d (ns.map D.int)) (hn : ns.Nodup) (hl : ns.length ≤ 4000) (na : starEach [e] X.env = (false, eval e X.env) :: starEach [] X.env := by exact D4.starEach_c rfl) :
    EV X b δ M (.Call (.Name "len" p) [.Call (.Name "set" p2) [e] [] p3] [] pos) (.int (ns.length : Nat)) := fun R mR σ H Q S k kx => by
  refine we_of (RZ.pe_lenSetI hg hm hg2 hm2 pe_we hc na) ?_
  refine h R mR σ H _ S (fun M1 d1 v H1 p1 S1 => ?_) .nx
  obtain ⟨rfl, rfl⟩ := p1
  obtain ⟨G, S1, z1, z2, z3⟩ := S1
  obtain ⟨a, vs, rfl, ha, rs⟩ := S1.la la z3
  have e := rs.ints
  subst e
  exact ⟨a, ns, rfl, SqL.of ha, hn, hl, k _ _ _ H1 ⟨rfl, rfl⟩ ⟨G, S1, z1, z2, Rep.int_iff.mpr rfl⟩⟩
theorem Reps.reverse : ∀ {ds : List D} {vs : List V}, Reps K G ds vs → Reps K G ds.reverse vs.reverse
  | [], vs, h => by rw [h.nil_inv]; exact .nil
  | d :: ds, vs, h => by
    obtain ⟨v, r, e, h1, t⟩ := h.cons_inv
    subst e
    rw [List.reverse_cons, List.reverse_cons]
    exact (Reps.reverse t).append (.cons h1 .nil)
theorem ev_rev {n : Nat} {p1 : Pos} (h : EV X b δ M e d) (la : LA M d xs) : EV X b δ M (.Subscript e (.Slice none none (some (.UnaryOp .USub (.Constant (.int 1) n p1) p2)) p3) pos) (.lst xs.reverse) := fun R mR σ H Q S k kx => by
  refine we_of (pe_revL pe_we) ?_
  refine h R mR σ H _ S (fun M1 d1 v H1 p1 S1 => ?_) .nx
  obtain ⟨rfl, rfl⟩ := p1
  obtain ⟨G, S1, z1, z2, z3⟩ := S1
  obtain ⟨a, vs, rfl, ha, rs⟩ := S1.la la z3
  refine ⟨a, vs, rfl, SqL.of ha, fun q hq => ?_⟩
  obtain ⟨S2, sg⟩ := S1.frz hq (.lst vs.reverse)
  exact k _ _ _ _ ⟨rfl, rfl⟩ ⟨_, S2, Mono.env _ _ sg z1, mR _ _ sg z2, Rep.lst_iff.mpr ⟨q, _, rfl, upd_same, (Reps.reverse rs).mono sg⟩⟩
abbrev FrzL (b : Bs) (Φ : Mp → D → Prop) : Mp → D → Prop := fun M1 d => ∃ a xs, d = .loc (.ref a) ∧ M1 a = some (.lst xs) ∧ Nw b a ∧ Φ (dm M1 a) (.lst xs)
theorem EW.frzL (h : EW X b δ M e (FrzL b Φ) Ψ) : EW X b δ M e Φ Ψ := EW.frz h
abbrev Frz2 (b : Bs) (Φ : Mp → D → Prop) : Mp → D → Prop := fun M1 d => ∃ a c xs ys, d = .tup [.loc (.ref a), .loc (.ref c)] ∧ a ≠ c ∧ M1 a = some (.lst xs) ∧ Nw b a ∧ M1 c = some (.lst ys) ∧ Nw b c ∧ Φ (dm (dm M1 c) a) (.tup [.lst xs, .lst ys])
theorem EW.frz2 (h : EW X b δ M e (Frz2 b Φ) Ψ) : EW X b δ M e Φ Ψ := fun R mR σ H Q SH k kx => by
  refine h R mR σ H Q SH (fun M' d v H' ⟨a, c, xs, ys, e1, hac, h1, n1, h2, n2, p⟩ ⟨G, S', z1, z2, z3⟩ => ?_) kx
  subst e1
  obtain ⟨t, vs, rfl, ht, rs⟩ := Rep.tup_iff.mp z3
  obtain ⟨u1, r1, e2, q1, t1⟩ := rs.cons_inv
  obtain ⟨u2, r2, e3, q2, t2⟩ := t1.cons_inv
  have e4 := t2.nil_inv
  have e5 := Rep.loc_iff.mp q1
  have e6 := Rep.loc_iff.mp q2
  subst e6 e5 e4 e3 e2
  obtain ⟨G1, S1, sg1, w1⟩ := S'.freeze h2 n2
  obtain ⟨G2, S2, sg2, w2⟩ := S1.freeze (p := a) (by rw [dm_ne hac]; exact h1) n1
  have sg := sg1.trans sg2
  exact k _ _ _ H' p ⟨G2, S2, Mono.env _ _ sg z1, mR _ _ sg z2, Rep.tup_iff.mpr ⟨t, _, rfl, sg _ _ ht, .cons w2 (.cons (w1.mono sg2) .nil)⟩⟩
end
end D4
end

section
set_option maxRecDepth 100000
set_option maxHeartbeats 4000000
/-! D5i: dicts with tuple keys: setdefault, a walk over the keys; a dict compared with another. -/
namespace D4
open PySem L2
section
variable {X : Cx} {pins : List (Addr × Obj)} {σ : St} {H : Hp} {s : Shared} {a c : Addr} {u r : Value} {d : V} {k : List Key} {A : Around} {E : Value → Shared → Prop}
theorem d_setdT {kvs : List (List Key × V)} {Q : Value → Shared → Prop} (hu : A.units + 1 < cLine) (I : Inv X pins σ H s) (e : H a = some (.dT kvs)) (eb : H c = some (.tup (k.map kV))) (rd : RelV d r) (hl : kvs.length < sizeLine)
    (h1 : ∀ v, valV kvs k = some v → ∀ (w' : Value) (s' : Shared), Inv X pins σ H s' → RelV v w' → Q w' s') (h2 : valV kvs k = none → ∀ (w' : Value) (s' : Shared), Inv X pins σ (upd H a (.dT (putK kvs k d))) s' → RelV d w' → Q w' s') :
    wpAny (model X.prog X.w) A (call (.builtin "dict.setdefault") [.ref a, .ref c, r]) Q E s := by
  obtain ⟨z, hd, xs, rel, dd⟩ := dt_of I.hok e
  have hz : xs.length ≤ sizeLine := by rw [← Paired.length rel]; exact z
  refine call_setdefault_heap (hsz := hz) (tupleKind_room_in1 hu) (key_of I.hok eb) hd dd (fun p hp => ?_) fun hn h' dd' hs => ?_
  · have q := rel.val k
    rw [hp] at q
    cases q0 : valV kvs k with
    | none =>
      rw [q0] at q
      exact (show False from q).elim
    | some v0 =>
      rw [q0] at q
      exact h1 v0 q0 _ _ (I.tok _) q
  · have q := rel.val k
    rw [hn] at q
    cases q0 : valV kvs k with
    | some v0 =>
      rw [q0] at q
      exact (show False from q).elim
    | none =>
      have hl2 : (putK kvs k d).length ≤ sizeLine := by
        have := length_putK kvs k d
        omega
      obtain ⟨q, es, ep, hq, g2, g3, g4, _, g5⟩ := dd'
      refine h2 q0 _ _ (d_write I (by rw [e]; exact True.intro) hs ⟨q, hq⟩ ⟨hl2, hd, _, (rel.put k eb rd).keeps fun c ys ec => ?_, q, es, ep, hq, g2, g3, g4, g5⟩) rd
      rw [upd_ne (ne_of ec e (fun z => nomatch z))]
      exact ec
end
/-- d.setdefault(y, z), y a tuple -/
def tDSetdT (td ty tx : TE) : TE := fun σ H Q => td σ H fun x H1 => ∃ a, x = .ref a ∧ IsD H1 a ∧ ty σ H1 fun y H2 => tx σ H2 fun z H3 => ∃ (kvs : List (List Key × V)) (k : List Key) (c : Addr), H3 a = some (.dT kvs) ∧ y = .ref c ∧ H3 c = some (.tup (k.map kV)) ∧ kvs.length < sizeLine ∧
  (∀ v, valV kvs k = some v → Q v H3) ∧ (valV kvs k = none → Q z (upd H3 a (.dT (putK kvs k z))))
section
variable {X : Cx} {o e f : Expr} {td ty tx : TE} {apos cpos : Pos}
theorem pe_dsetdT (hu : X.A.units + 1 < cLine) (ho : PE X o td) (he : PE X e ty) (hf : PE X f tx) (m : M2 X o "setdefault" apos e f cpos) : PE X (.Call (.Attribute o "setdefault" apos) [e, f] [] cpos) (tDSetdT td ty tx) := by
  refine ⟨fun pins s σ H Q I h => ?_⟩
  refine wpAny_Call_method m.base m.few m.line PySem.F.plainAttrs_dict PySem.F.slot_dict_setdefault PySem.F.type_dict_setdefault (thn (ho.run pins s σ H _ I h) fun u s1 ⟨x, H1, I1, rx, a, ex, d, q1⟩ => ?_)
  subst ex
  obtain rfl : u = Value.ref a := rx
  obtain ⟨t1, t2, _⟩ := isD_at I1 d
  refine ⟨t1, t2, ?_⟩
  rw [m.trees]
  refine Calls.callWith_builtin rfl (Calls.evalArgs_plain (Calls.spliced_cons (thn (he.run pins s1 σ H1 _ I1 q1) fun iv s2 ⟨y, H2, I2, ry, q2⟩ =>
    Calls.spliced_cons (thn (hf.run pins s2 σ H2 _ I2 q2) fun fv s3 ⟨z, H3, I3, rz, kvs, k, c, ea, ey, ec, hl, q3, q4⟩ => Calls.spliced_nil ?_))))
  subst ey
  cases (show iv = Value.ref c from ry)
  exact d_setdT hu I3 ea ec rz hl (fun v hv w' s4 I4 rw' => ⟨v, _, I4, rw', q3 v hv⟩) fun hn w' s4 I4 rw' => ⟨z, _, I4, rw', q4 hn⟩
end
section
variable {X : Cx} {b : Bs} {δ : Od} {M : Mp} {e o k e1 e2 tg iter elt : Expr} {es ifs : List Expr} {Φ : Mp → D → Prop} {Ψ : Xs} {d d1 d2 : D} {pos apos cpos : Pos} {a c : Addr} {kvs lvs : List (Int × D)} {kts : List (List Int × D)} {i : Int} {ks : List Int} {K : Fg} {G H : Hp}
/-- o.setdefault(k, e): e makes the value -/
theorem ew_dsetdT (hu : X.A.units + 1 < cLine) (h1 : EV X b δ M o (.loc (.ref a))) (h2 : EV X b δ M k (.tup (ks.map D.int))) (hk : ∃ kts, M a = some (.dT kts)) (hw : Wr b a) (h3 : EW X b δ M e (fun M1 d => ∃ kts, M1 a = some (.dT kts) ∧ kts.length < 100000 ∧ (∀ d1, lookD kts ks = some d1 → Φ M1 d1) ∧ (lookD kts ks = none → Φ (um M1 a (.dT (putD kts ks d))) d)) Ψ)
    (m : M2 X o "setdefault" apos k e cpos := by exact ⟨rfl, rfl, rfl, rfl⟩) : EW X b δ M (.Call (.Attribute o "setdefault" apos) [k, e] [] cpos) Φ Ψ := fun R mR σ H Q S kk kx => by
  obtain ⟨kt0, hm0⟩ := hk
  refine we_of (pe_dsetdT hu pe_we pe_we pe_we m) ?_
  refine h1 R mR σ H _ S (fun M1 d' x H1 p1 S1 => ?_) .nx
  obtain ⟨rfl, rfl⟩ := p1
  obtain ⟨G1, S1', z1⟩ := id S1
  refine ⟨a, Rep.loc_iff.mp z1.2.2, (IsKey.t (ks := ks) hm0).isD S1', ?_⟩
  refine h2 R mR σ H1 _ (S1.imp fun G z => ⟨z.1, z.2.1⟩) (fun M2 d' y H2 p2 S2 => ?_) .nx
  obtain ⟨rfl, rfl⟩ := p2
  refine h3 (fun G => R G ∧ Rep X.K G (.tup (ks.map D.int)) y) (mR.and .rep) σ H2 _ (S2.imp fun G z => ⟨z.1, z.2⟩) (fun M3 d3 z H3 p3 S3 => ?_) (fun e s H' q S' => kx e s H' q (S'.imp fun G z => ⟨z.1, z.2.1⟩))
  obtain ⟨kts, hm, hl, q1, q2⟩ := p3
  obtain ⟨G, S3, z1, z2, z3⟩ := S3
  obtain ⟨ws, h1, rw'⟩ := S3.dt hm
  obtain ⟨q, vs, rfl, hq, rs⟩ := Rep.tup_iff.mp z2.2
  have ev := rs.ints
  subst ev
  have hq' : H3 q = some (.tup ((keyT ks).map kV)) := by rw [keyT_vals]; exact S3.gh _ _ hq
  refine ⟨ws, keyT ks, q, h1, rfl, hq', by rw [← RepK.length (f := keyT) rw']; exact Nat.lt_of_lt_of_le hl (by decide), fun v hv => ?_, fun hn => ?_⟩
  · cases hlk : lookD kts ks with
    | none =>
      have := (RepK.look (f := keyT) keyT_inj rw' ks).2 hlk
      rw [hv] at this; cases this
    | some d1 =>
      obtain ⟨v1, w1, w2⟩ := (RepK.look (f := keyT) keyT_inj rw' ks).1 d1 hlk
      rw [hv] at w1; cases w1
      exact kk _ _ _ _ (q1 d1 hlk) ⟨G, S3, z1, z2.1, w2⟩
  · cases hlk : lookD kts ks with
    | some d1 =>
      obtain ⟨v1, w1, w2⟩ := (RepK.look (f := keyT) keyT_inj rw' ks).1 d1 hlk
      rw [hn] at w1; cases w1
    | none => exact kk _ _ _ _ (q2 hlk) ⟨G, S3.set hm hw ⟨_, rfl, RepK.put keyT_inj rw' ks z3⟩, z1, z2.1, z3⟩
theorem ev_lockT (hm : M a = some (.dT kts)) (h : ∀ (b' : Bs) (od : Obj) (ws : List (List Key × V)), (∀ p, Wr b' p ↔ Wr b p) → EV X b' δ (um M a (.dTZ od kts ws)) e d) : EV X b δ M e d := fun R mR σ H Q S kk kx => by
  refine we_of (pe_lock pe_we) ?_
  obtain ⟨G, S, z⟩ := S
  obtain ⟨ws, hp, hl⟩ := S.lockT hm
  refine ⟨a, .dT ws, hp, trivial, fun od => ?_⟩
  refine h (lk b G H a od (.dT ws)) od ws (S.wr_lk hp) R mR σ _ _ ⟨G, hl od, z⟩ (fun M' d' v H' p S' => ?_) .nx
  obtain ⟨rfl, rfl⟩ := p
  obtain ⟨G', S', z'⟩ := S'
  obtain ⟨q1, q2⟩ := S.unlockT hp S' um_same
  refine ⟨q1, kk _ _ _ _ ⟨rfl, rfl⟩ ⟨G', ?_, z'⟩⟩
  rw [um_um] at q2
  have eM : um M a (.dT kts) = M := by
    funext x
    by_cases hx : x = a
    · subst hx; rw [um_same, hm]
    · rw [um_ne hx]
  rw [eM] at q2
  exact q2
theorem iw_keysT {od : Obj} {ws : List (List Key × V)} {Φ : Mp → (Mp → Prop) → List D → Prop} (h : EV X b δ M o (.loc (.ref a))) (hm : M a = some (.dTZ od kts ws)) (hΦ : Φ M (fun M' => M' a = some (.dTZ od kts ws)) (kts.map fun kv => .tup (kv.1.map D.int))) : IW X b δ M tg o Φ Ψ := fun R mR σ H Q S k kx => by
  refine wi_of (pi_keys pe_we) ?_
  refine h R mR σ H _ S (fun M1 d v H1 p S1 => ?_) .nx
  obtain ⟨rfl, rfl⟩ := p
  obtain ⟨G, S1, z1, z2, z3⟩ := S1
  obtain ⟨ho, rw'⟩ := S1.dtz hm
  refine ⟨a, od, Rep.loc_iff.mp z3, .inr ⟨ws, ho, ?_⟩⟩
  refine k _ _ _ H1 _ R hΦ mR (fun G z => z) ⟨G, S1, z1, z2⟩ ?_
  refine ⟨_, _, by rw [List.length_map, RepK.length (f := keyT) rw']; exact walk_keysT (d := a) (o := od) (kvs := ws), ?ga, ?gb⟩
  case ga =>
    intro M' H' hc ⟨G, S', z⟩
    exact (S'.dtz hc).1
  case gb =>
    intro i d x M' R' H' H'' mR' hi hc ⟨G, S', r', z⟩ y
    obtain ⟨rfl, kk, vv, q, hk, rfl, hq⟩ := y
    rw [List.getElem?_map] at hi
    cases q0 : kts[i]? with
    | none => rw [q0] at hi; cases hi
    | some kv =>
      rw [q0] at hi
      cases hi
      obtain ⟨v, q1, _⟩ := RepK.get (f := keyT) rw' (k := kv.1) (d := kv.2) q0
      rw [hk] at q1
      cases q1
      rw [keyT_vals] at hq
      obtain ⟨S2, sg⟩ := S'.frzT hq
      exact ⟨_, S2, mR' _ _ sg r', mR _ _ sg z, Rep.tup_iff.mpr ⟨q, _, rfl, upd_same, .of_ints _⟩⟩
section
variable {scope : Scope} {α : Type} {xs : List α}
/-- a comprehension over the keys of a dict, tuples -/
theorem ev_lcKT (own : List (Str × Nat)) (js : List Nat) (t : α → Bool) (f : α → D) (g : α → List D) (key : α → List Int) (enc : α → D) (hc : X.calm = true) (hN : X.N.Nodup) (hm : M a = some (.dT (xs.map fun x => (key x, enc x)))) (ho : ∀ b' z, EV X b' δ (um M a z) iter (.loc (.ref a))) (hl : xs.length ≤ 100000)
    (htg : ∀ x ∈ xs, ∀ s' H' Cc cl fp, GS (Blk X scope s' H' Cc cl fp) tg (.tup ((key x).map D.int)) js (g x))
    (hturn : ∀ b' z, (∀ p, Wr b' p ↔ Wr b p) → (∃ od ws, z = .dTZ od (xs.map fun x => (key x, enc x)) ws) → ∀ x ∈ xs, ∀ M2, Sub (um M a z) M2 → TurnP X scope b' (setD (wD δ (own.map (·.2))) js (g x)) M2 ifs elt (t x) (f x)) (ok : BlkOk X.N X.env.scope scope own := by exact blkOk_by (by dsimp only [L2.cxOf, PyProof.Rows.envOfC]; decide +kernel)) (hif : ifs.length ≤ 1 := by decide) (hjs : ∀ j ∈ js, j ∈ own.map (·.2) := by decide)
    (hs : ∀ x, foldedSetIterable iter X.env x = pure x := by exact fun _ => rfl) : EV X b δ M (.ListComp elt [⟨tg, iter, ifs, 0⟩] scope pos) (.lst ((xs.filter t).map f)) := by
  refine ev_lockT hm fun b' od ws hW => ew_lc (xs := xs) (enc := fun x => .tup ((key x).map D.int)) (t := t) (f := f) (g := g) hc hN ok ?_ hif hjs hs
  refine iw_keysT (ho b' _) um_same ⟨by rw [List.map_map]; rfl, hl, fun M2 s => s _ _ um_same, htg, fun x hx M2 s => hturn b' _ hW ⟨od, ws, rfl⟩ x hx M2 s, ⟨rfl, rfl⟩⟩
end
/-- two dicts of whole numbers, alike whatever their order -/
theorem o_eqDA (hu : X.A.units < cLine) {ps qs : List (Int × Int)} (h1 : M a = some (.dI (ps.map fun p => (p.1, D.int p.2)))) (h2 : M c = some (.dI (qs.map fun p => (p.1, D.int p.2)))) (hl : ps.length = qs.length) (hp : ∀ p ∈ ps, lookD (qs.map fun p => (p.1, D.int p.2)) p.1 = some (.int p.2)) : OW X b (compareOp .Eq) M (.loc (.ref a)) (.loc (.ref c)) (One M (.bl true)) :=
  ow_of (op_eq_dictA hu) fun R mR x y H G Q S z r1 r2 k => by
    obtain ⟨_, o1, ho1, ws, e1, rw1⟩ := S.cel a _ h1
    obtain ⟨_, o2, ho2, ws2, e2, rw2⟩ := S.cel c _ h2
    subst e1 e2
    refine ⟨a, c, ws, ws2, Rep.loc_iff.mp r1, Rep.loc_iff.mp r2, ho1, ho2, ?_, ?_, ?_⟩
    · have e3 := RepK.length (f := keyI) rw1
      have e4 := RepK.length (f := keyI) rw2
      rw [List.length_map] at e3 e4
      omega
    · intro p hpm
      obtain ⟨j, hj, ej⟩ := List.mem_iff_getElem.mp hpm
      have hlen := RepK.length (f := keyI) rw1
      rw [List.length_map] at hlen
      have hj' : j < ps.length := by rw [hlen]; exact hj
      obtain ⟨v, w1, w2⟩ := RepK.get (f := keyI) rw1 (i := j) (k := (ps[j]).1) (d := .int (ps[j]).2) (by simp [hj'])
      have w3 : ws[j]? = some p := by rw [← ej]; exact List.getElem?_eq_getElem hj
      rw [w3] at w1
      cases w1
      rw [Rep.int_iff] at w2
      subst w2
      obtain ⟨v2, u1, u2⟩ := (RepK.look (f := keyI) keyI_inj rw2 (ps[j]).1).1 _ (hp _ (List.getElem_mem hj'))
      rw [Rep.int_iff] at u2
      subst u2
      exact ⟨u1, rfl⟩
    · exact k M _ _ H ⟨rfl, rfl⟩ ⟨G, S, z, Rep.bl_iff.mpr rfl⟩
theorem c_sortedA {ns ms : List Int} (h : LA M d (ns.map D.int)) (hp : ms.Perm ns) (hs : ms.Pairwise (· ≤ ·)) (hl : ns.length < 64) : CW X b (.builtin "sorted") M [d] (One M (.lst (ms.map D.int))) := cw_of cr_sorted fun R mR vs H G Q S z r k => by
  obtain ⟨v, rfl, h'⟩ := reps1 r
  obtain ⟨a, ws, rfl, ha, rs⟩ := S.la h h'
  have e := rs.ints
  subst e
  refine ⟨a, ns, rfl, SqL.of ha, hl, fun ns' l q1 q2 hn => ?_⟩
  obtain ⟨S2, sg⟩ := S.frz hn (.lst (ns'.map V.int))
  have e : ns' = ms := pw_unique (q1.trans hp.symm) q2 hs
  subst e
  exact k _ _ _ _ ⟨rfl, rfl⟩ ⟨_, S2, mR _ _ sg z, Rep.lst_iff.mpr ⟨l, _, rfl, upd_same, .of_ints ns'⟩⟩
/-- i not in (j, k) -/
theorem o_notinT {i : Int} {ns : List Int} : OW X b (compareOp .NotIn) M (.int i) (.tup (ns.map D.int)) (One M (.bl (!decide (i ∈ ns)))) := ow_of op_notIn_seq fun R mR x y H G Q S z r1 r2 k => by
  obtain ⟨a, vs, rfl, ha, rs⟩ := Rep.tup_iff.mp r2
  have e := rs.ints
  subst e
  refine ⟨a, _, rfl, .inr (SqT.of (S.gh _ _ ha)), by rw [Rep.int_iff.mp r1] <;> rfl, flat_ints ns, ?_⟩
  rw [if_pos rfl, Rep.int_iff.mp r1, inV_int]
  exact k _ _ _ H ⟨rfl, rfl⟩ ⟨G, S, z, Rep.bl_iff.mpr rfl⟩
/-- a chain of two comparisons of ints, as a test -/
theorem tv_chain {op op' : CmpOp} {e3 : Expr} {i j k : Int} {g g' : Int → Int → V} {p p' : Int → Int → Bool} (h1 : EV X b δ M e1 (.int i)) (h2 : EV X b δ M e2 (.int j)) (h3 : EV X b δ M e3 (.int k))
    (ho : OpR X (compareOp op) (rI0 g)) (ho' : OpR X (compareOp op') (rI0 g')) (hg : ∀ i j, g i j = .bl (p i j)) (hg' : ∀ i j, g' i j = .bl (p' i j)) (hm' : lastMarks [op, op'] [e2, e3] = false := by rfl) :
    TV X b δ M (.Compare e1 [op, op'] [e2, e3] pos) (p i j && p' j k) := fun R mR σ H Q S kk kx => by
  refine wt_of (pt_chain ho ho' pe_we pe_we pe_we hm') ?_
  refine h1 R mR σ H _ S (fun M1 d1 x H1 q1 S1 => ?_) .nx
  obtain ⟨rfl, rfl⟩ := q1
  refine h2 (fun G => R G ∧ Rep X.K G (.int i) x) (mR.and .rep) σ H1 _ S1 (fun M2 d2 y H2 q2 S2 => ?_) .nx
  obtain ⟨rfl, rfl⟩ := q2
  obtain ⟨G, S3, z1, z2, z3⟩ := id S2
  refine ⟨i, j, Rep.int_iff.mp z2.2, Rep.int_iff.mp z3, p i j, hg i j, ?_⟩
  cases hp : p i j with
  | false =>
    exact iteF ⟨false, rfl, kk _ _ H2 ⟨rfl, by rw [hp] <;> rfl⟩ ⟨G, S3, z1, z2.1⟩⟩
  | true =>
    refine iteT (h3 (fun G => R G ∧ Rep X.K G (.int j) y) (mR.and .rep) σ H2 _ (S2.imp fun G z => ⟨z.1, z.2.1.1, z.2.2⟩) (fun M4 d4 w H4 q4 S4 => ?_) .nx)
    obtain ⟨rfl, rfl⟩ := q4
    obtain ⟨G4, S5, w1, w2, w3⟩ := S4
    refine ⟨j, k, Rep.int_iff.mp w2.2, Rep.int_iff.mp w3, ?_⟩
    rw [hg']
    exact ⟨_, rfl, kk _ _ H4 ⟨rfl, by rw [hp] <;> rfl⟩ ⟨G4, S5, w1, w2.1⟩⟩
end
end D4
end

section
set_option maxRecDepth 100000
set_option maxHeartbeats 4000000
/-! D5j: an item of a list stored; comprehensions whose elements change cells. -/
namespace D4
open PySem L2
def sLPut (td ty tv : TE) : TS := fun D σ H => tv σ H fun v H1 => td σ H1 fun x H2 => ty σ H2 fun y H3 => ∃ (a : Addr) (xs : List V) (i : Int), x = .ref a ∧ y = .int i ∧ H3 a = some (.lst xs) ∧ 0 ≤ i ∧ i < xs.length ∧ xs.length ≤ 1000 ∧ D.nx σ (upd H3 a (.lst (xs.set i.toNat v)))
theorem vals_set : ∀ {xs : List V} {us : List Value} {v : V} {u : Value} (n : Nat), Vals xs us → RelV v u → Vals (xs.set n v) (us.set n u)
  | [], us, v, u, n, h, r => by cases h; exact .nil
  | x :: xs, us, v, u, 0, h, r => by cases h with | cons a t => exact .cons r t
  | x :: xs, us, v, u, n + 1, h, r => by cases h with | cons a t => exact .cons a (vals_set n t r)
theorem ps_lput {X : Cx} {o i value : Expr} {td ty tv : TE} {pos' pos : Pos} (ho : PE X o td) (hi : PE X i ty) (hv : PE X value tv) (hs : swapsWith value (some (.Subscript o i pos')) pos.line X.env = pure false) :
    PS X (.Assign [.Subscript o i pos'] value pos) (sLPut td ty tv) := by
  refine ⟨fun pins s σ H D I h => ?_⟩
  refine wpAny_Assign_Subscript (thn (hv.run pins s σ H _ I h) fun r s1 ⟨v, H1, I1, rv, q1⟩ => thn (ho.run pins s1 σ H1 _ I1 q1) fun u s2 ⟨x, H2, I2, rx, q2⟩ => thn (hi.run pins s2 σ H2 _ I2 q2) fun iv s3 ⟨y, H3, I3, ry, a, xs, k, ex, ey, ha, h0, h1, hl, q3⟩ => ?_) hs
  subst ex ey
  obtain rfl : u = Value.ref a := rx
  obtain ⟨t, rfl⟩ : ∃ t, iv = Value.int k t := ry
  obtain ⟨z, its, n, rs, hlen, e⟩ := I3.lstM ha
  refine PySem.W.ki_setAt (n := n) e h0 (by omega) (by rw [List.size_toArray]; omega) ⟨σ, _, I3.lset (its' := its.set k.toNat r) ha e (by simp) (vals_set _ rs rv) (by rw [List.length_set]; exact z), q3⟩
section
variable {X : Cx} {b : Bs} {δ : Od} {M : Mp} {e o k tg iter elt : Expr} {es ifs : List Expr} {Φ : Mp → D → Prop} {Ψ : Xs} {d d1 d2 : D} {pos apos cpos : Pos} {a c : Addr} {K : Fg} {G H : Hp}
/-- o[k] = e, o a list -/
theorem sw_lput {E : DE} (h1 : EW X b δ M e (fun M1 d => ∃ a xs i, EV X b δ M1 o (.loc (.ref a)) ∧ EV X b δ M1 k (.int i) ∧ M1 a = some (.lst xs) ∧ Wr b a ∧ 0 ≤ i ∧ i < xs.length ∧ xs.length ≤ 1000 ∧ E.nx (um M1 a (.lst (xs.set i.toNat d))) δ) (fun c M' => E.xc c M' δ))
    (hs : swapsWith e (some (.Subscript o k apos)) pos.line X.env = pure false := by rfl) : SW X b δ M (.Assign [.Subscript o k apos] e pos) E := fun R mR σ H S kx => by
  refine ws_of (ps_lput pe_we pe_we pe_we hs) ?_
  refine h1 R mR σ H _ S (fun M1 d v H1 p1 S1 => ?_) kx.kx
  obtain ⟨a, xs, i, h2, h3, hm, hw, i0, i1, hl, hE⟩ := p1
  refine h2 (fun G => R G ∧ Rep X.K G d v) (mR.and .rep) σ H1 _ S1 (fun M2 d' x H2 p2 S2 => ?_) .nx
  obtain ⟨rfl, rfl⟩ := p2
  refine h3 (fun G => (R G ∧ Rep X.K G d v) ∧ x = .ref a) ((mR.and .rep).and fun _ _ _ h => h) σ H2 _ (S2.imp fun G z => ⟨z.1, z.2.1, Rep.loc_iff.mp z.2.2⟩) (fun M3 d' y H3 p3 S3 => ?_) .nx
  obtain ⟨rfl, rfl⟩ := p3
  obtain ⟨G, S3, z1, z2, z3⟩ := S3
  obtain ⟨_, ob, ho, ws, eo, rw'⟩ := S3.cel a _ hm
  subst eo
  have hlen := rw'.length
  exact ⟨a, ws, i, z2.2, Rep.int_iff.mp z3, ho, i0, by omega, by omega, _, δ, hE, G, S3.set hm hw ⟨_, rfl, rw'.set _ z2.1.2⟩, z1, z2.1.1⟩
/-- what a comprehension asks whose elements change cells -/
def LcI (X : Cx) (b : Bs) (δ : Od) (M : Mp) (scope : Scope) (own : List (Str × Nat)) (tg iter : Expr) (ifs : List Expr) (elt : Expr) (js : List Nat) (Φ : Addr → Mp → List D → Prop) (Ψ : Xs) : Prop :=
  IW X b δ M tg iter (fun M1 CM ds => ds.length ≤ 100000 ∧ ∃ I : Addr → Nat → List D → Mp → Prop, (∀ Dl, M1 Dl = none → Nw b Dl → I Dl 0 [] (um M1 Dl (.lst []))) ∧ (∀ Dl i acc M', I Dl i acc M' → M' Dl = some (.lst acc) ∧ CM M' ∧ acc.length ≤ i) ∧
    (∀ Dl i d acc M', Nw b Dl → ds[i]? = some d → I Dl i acc M' → ∃ gs, (∀ s' H' Cc cl fp, GS (Blk X scope s' H' Cc cl fp) tg d js gs) ∧ TurnC X scope b (setD (wD δ (own.map (·.2))) js gs) M' ifs elt (fun M3 y => M3 Dl = some (.lst acc) ∧ I Dl (i + 1) (acc ++ [y]) (um M3 Dl (.lst (acc ++ [y])))) (fun M2 => I Dl (i + 1) acc M2)) ∧
    ∀ Dl acc M', Nw b Dl → I Dl ds.length acc M' → M' Dl = some (.lst acc) ∧ Φ Dl M' acc) Ψ
theorem LcI.read {scope : Scope} {own : List (Str × Nat)} {js : List Nat} {Φ : Addr → Mp → List D → Prop} (hif : ifs.length ≤ 1) (hjs : ∀ j ∈ js, j ∈ own.map (·.2))
    (h : LcI X b δ M scope own tg iter ifs elt js Φ Ψ) {R : Hp → Prop} (mR : Mono R) {σ : L2.St} {H : Hp} {Q : VK} (SH : SS X.K b M (RE X.K σ δ R) H) (kx : KX X b δ R σ Ψ)
    (hQ : ∀ Dl M' out H', Φ Dl M' out → M' Dl = some (.lst out) → Nw b Dl → SS X.K b M' (RE X.K σ δ R) H' → Q (.ref Dl) H') : tLc (WI X tg iter) (gB X scope tg) (tTs X scope ifs) (tEB X scope elt) (own.map (·.2)) σ H Q := by
  refine lc_read (Qd := fun Dl M' => ∃ out, Φ Dl M' out ∧ M' Dl = some (.lst out)) hif mR (fun R' mR' σ' H' Q' S' k' kx' => h R' mR' σ' H' Q' S' (fun M1 CM ds H1 J R1 p => ?_) kx') SH (fun Dl M' H' ⟨out, p, q⟩ n S' => hQ Dl M' out H' p q n S') kx
  obtain ⟨hlen, I, h0, hI, hst, hd⟩ := p
  refine k' M1 CM _ H1 J R1 fun Dl n1 n2 => ?_
  refine ⟨I Dl, h0 Dl n1 n2, fun i acc M' z => hI Dl i acc M' z, hlen, fun i d acc M' hd z => ?_, fun acc M' z => ⟨acc, (hd Dl acc M' n2 z).2, (hd Dl acc M' n2 z).1⟩⟩
  obtain ⟨gs, g1, g2⟩ := hst Dl i d acc M' n2 hd z
  exact ⟨js, gs, hjs, g1, g2⟩
/-- .. its list frozen -/
theorem ew_lcI {scope : Scope} {own : List (Str × Nat)} {js : List Nat} (hc : X.calm = true) (hN : X.N.Nodup) (ok : BlkOk X.N X.env.scope scope own)
    (h : LcI X b δ M scope own tg iter ifs elt js (fun Dl M1 out => Φ (dm M1 Dl) (.lst out)) Ψ) (hif : ifs.length ≤ 1 := by decide) (hjs : ∀ j ∈ js, j ∈ own.map (·.2) := by decide) (hs : ∀ x, foldedSetIterable iter X.env x = pure x := by exact fun _ => rfl) : EW X b δ M (.ListComp elt [⟨tg, iter, ifs, 0⟩] scope pos) Φ Ψ := fun R mR σ H Q SH k kx => by
  refine we_of (pe_lc (g := gB X scope tg) (tt := tTs X scope ifs) (te := tEB X scope elt) hc hN pi_wi ok
    (fun s' H' Cc cl fp => ⟨fun pins s σ H v u Q I r h => (h s' H' Cc cl fp).run pins s u I r⟩) (fun s' H' Cc cl fp => pts_tTs s' H' Cc cl fp hif) (fun s' H' Cc cl fp => ⟨fun pins s σ H Q I h => (h s' H' Cc cl fp).run pins s I⟩) hs) ?_
  refine h.read hif hjs mR SH kx fun Dl M1 out H' p n1 n2 ⟨G, S', z⟩ => ?_
  obtain ⟨G', S2, sg, r⟩ := S'.freeze n1 n2
  exact k _ _ _ H' p ⟨G', S2, Mono.env _ _ sg z.1, mR _ _ sg z.2, r⟩
/-- .. that may change -/
theorem ew_lcIN {scope : Scope} {own : List (Str × Nat)} {js : List Nat} (hc : X.calm = true) (hN : X.N.Nodup) (ok : BlkOk X.N X.env.scope scope own)
    (h : LcI X b δ M scope own tg iter ifs elt js (fun Dl M1 out => Φ M1 (.loc (.ref Dl))) Ψ) (hif : ifs.length ≤ 1 := by decide) (hjs : ∀ j ∈ js, j ∈ own.map (·.2) := by decide) (hs : ∀ x, foldedSetIterable iter X.env x = pure x := by exact fun _ => rfl) : EW X b δ M (.ListComp elt [⟨tg, iter, ifs, 0⟩] scope pos) Φ Ψ := fun R mR σ H Q SH k kx => by
  refine we_of (pe_lc (g := gB X scope tg) (tt := tTs X scope ifs) (te := tEB X scope elt) hc hN pi_wi ok
    (fun s' H' Cc cl fp => ⟨fun pins s σ H v u Q I r h => (h s' H' Cc cl fp).run pins s u I r⟩) (fun s' H' Cc cl fp => pts_tTs s' H' Cc cl fp hif) (fun s' H' Cc cl fp => ⟨fun pins s σ H Q I h => (h s' H' Cc cl fp).run pins s I⟩) hs) ?_
  refine h.read hif hjs mR SH kx fun Dl M1 out H' p n1 n2 S' => ?_
  exact k _ _ _ H' p (S'.imp fun G z => ⟨z.1, z.2, Rep.loc_iff.mpr rfl⟩)
/-- over a list -/
theorem lci_la {scope : Scope} {own : List (Str × Nat)} {js : List Nat} {xs : List D} {Φ : Addr → Mp → List D → Prop} (I : Addr → Nat → List D → Mp → Prop) (h : EV X b δ M iter d) (la : LA M d xs) (hl : xs.length ≤ 100000)
    (h0 : ∀ Dl, M Dl = none → Nw b Dl → I Dl 0 [] (um M Dl (.lst []))) (hI : ∀ Dl i acc M', I Dl i acc M' → M' Dl = some (.lst acc) ∧ LA M' d xs ∧ acc.length ≤ i)
    (hst : ∀ Dl i d acc M', Nw b Dl → xs[i]? = some d → I Dl i acc M' → ∃ gs, (∀ s' H' Cc cl fp, GS (Blk X scope s' H' Cc cl fp) tg d js gs) ∧ TurnC X scope b (setD (wD δ (own.map (·.2))) js gs) M' ifs elt (fun M3 y => M3 Dl = some (.lst acc) ∧ I Dl (i + 1) (acc ++ [y]) (um M3 Dl (.lst (acc ++ [y])))) (fun M2 => I Dl (i + 1) acc M2))
    (hd : ∀ Dl acc M', Nw b Dl → I Dl xs.length acc M' → M' Dl = some (.lst acc) ∧ Φ Dl M' acc) : LcI X b δ M scope own tg iter ifs elt js Φ Ψ :=
  iw_la h la ⟨hl, I, h0, hI, hst, hd⟩ fun CM CM' f ⟨a1, I, a2, a3, a4⟩ => ⟨a1, I, a2, fun Dl i acc M' z => ⟨(a3 Dl i acc M' z).1, f _ (a3 Dl i acc M' z).2.1, (a3 Dl i acc M' z).2.2⟩, a4⟩
/-- over a range -/
theorem lci_rng {scope : Scope} {own : List (Str × Nat)} {js : List Nat} {n : Nat} {p pr : Pos} {Φ : Addr → Mp → List D → Prop} (I : Addr → Nat → List D → Mp → Prop) (hg : Gl X "range") (hm : X.mg "range" = none) (h : EV X b δ M e (.int (n : Nat))) (h1 : n ≤ 100000)
    (h0 : ∀ Dl, M Dl = none → Nw b Dl → I Dl 0 [] (um M Dl (.lst []))) (hI : ∀ Dl i acc M', I Dl i acc M' → M' Dl = some (.lst acc) ∧ acc.length ≤ i)
    (hst : ∀ Dl i acc M', Nw b Dl → i < n → I Dl i acc M' → ∃ gs, (∀ s' H' Cc cl fp, GS (Blk X scope s' H' Cc cl fp) tg (.int (i : Nat)) js gs) ∧ TurnC X scope b (setD (wD δ (own.map (·.2))) js gs) M' ifs elt (fun M3 y => M3 Dl = some (.lst acc) ∧ I Dl (i + 1) (acc ++ [y]) (um M3 Dl (.lst (acc ++ [y])))) (fun M2 => I Dl (i + 1) acc M2))
    (hd : ∀ Dl acc M', Nw b Dl → I Dl n acc M' → M' Dl = some (.lst acc) ∧ Φ Dl M' acc)
    (hs : starEach [e] X.env = [(false, eval e X.env)] := by exact D4.starEach_1 rfl) (hs1 : starEach [e] X.env = (false, eval e X.env) :: starEach [] X.env := by exact D4.starEach_c rfl) : LcI X b δ M scope own tg (.Call (.Name "range" p) [e] [] pr) ifs elt js Φ Ψ := by
  have hl : (rngD (n : Nat)).length = n := by unfold rngD; rw [List.length_map, List.length_range, Int.toNat_natCast]
  refine iw_range1 hg hm (h.to ⟨_, rfl, by omega, by omega, by rw [hl]; exact h1, I, h0, fun Dl i acc M' z => ⟨(hI Dl i acc M' z).1, trivial, (hI Dl i acc M' z).2⟩, fun Dl i d acc M' hn hd z => ?_, by rw [hl]; exact hd⟩) hs hs1
  have hil := (List.getElem?_eq_some_iff.mp hd).1
  rw [hl] at hil
  have : d = .int (i : Nat) := by
    unfold rngD at hd
    rw [List.getElem?_map, List.getElem?_range (by omega)] at hd
    cases hd; rfl
  subst this
  exact hst Dl i acc M' hn hil z
/-- a comprehension over a tuple -/
theorem ev_lcTup {scope : Scope} {α : Type} {xs : List α} {enc : α → D} (own : List (Str × Nat)) (js : List Nat) (t : α → Bool) (f : α → D) (g : α → List D) (hc : X.calm = true) (hN : X.N.Nodup) (h : EV X b δ M iter (.tup (xs.map enc))) (hl : xs.length ≤ 100000) (htg : ∀ x ∈ xs, ∀ s' H' Cc cl fp, GS (Blk X scope s' H' Cc cl fp) tg (enc x) js (g x))
    (hturn : ∀ x ∈ xs, ∀ M2, Sub M M2 → TurnP X scope b (setD (wD δ (own.map (·.2))) js (g x)) M2 ifs elt (t x) (f x)) (ok : BlkOk X.N X.env.scope scope own) (hif : ifs.length ≤ 1 := by decide) (hjs : ∀ j ∈ js, j ∈ own.map (·.2) := by decide) (hs : ∀ x, foldedSetIterable iter X.env x = pure x := by exact fun _ => rfl) : EV X b δ M (.ListComp elt [⟨tg, iter, ifs, 0⟩] scope pos) (.lst ((xs.filter t).map f)) :=
  ew_lc hc hN ok (iw_tup (h.to ⟨_, rfl, rfl, hl, fun _ _ => trivial, htg, hturn, rfl, rfl⟩)) hif hjs hs
/-- name = [..] on one line, elements that change cells; its list frozen -/
theorem sw_setLcI (i : Nat) {y : Str} {py spos : Pos} {E : DE} {scope : Scope} {own : List (Str × Nat)} {js : List Nat} (hc : X.calm = true) (hN : X.N.Nodup) (ok : BlkOk X.N X.env.scope scope own)
    (h : LcI X b δ M scope own tg iter ifs elt js (fun Dl M1 out => E.nx (dm M1 Dl) (δ.set i (some (.lst out)))) (fun c M' => E.xc c M' δ)) (hy : X.N[i]? = some y := by rfl) (hyl : X.env.scope.names.lookup y = some .local := by rfl)
    (hsw : swapsWith (.ListComp elt [⟨tg, iter, ifs, 0⟩] scope pos) (some (.Name y py)) spos.line X.env = pure true := by exact sw_true rfl rfl rfl (by decide +kernel)) (hif : ifs.length ≤ 1 := by decide) (hjs : ∀ j ∈ js, j ∈ own.map (·.2) := by decide) (hs : ∀ x, foldedSetIterable iter X.env x = pure x := by exact fun _ => rfl) : SW X b δ M (.Assign [.Name y py] (.ListComp elt [⟨tg, iter, ifs, 0⟩] scope pos) spos) E := fun R mR σ H SH kx => by
  refine ws_of (ps_setLc (i := i) (g := gB X scope tg) (tt := tTs X scope ifs) (te := tEB X scope elt) hc hN hy hyl hsw pi_wi ok
    (fun s' H' Cc cl fp => ⟨fun pins s σ H v u Q I r h => (h s' H' Cc cl fp).run pins s u I r⟩) (fun s' H' Cc cl fp => pts_tTs s' H' Cc cl fp hif) (fun s' H' Cc cl fp => ⟨fun pins s σ H Q I h => (h s' H' Cc cl fp).run pins s I⟩) hs) ?_
  refine h.read hif hjs mR SH kx.kx fun Dl M1 out H' p n1 n2 ⟨G, S', z⟩ => ?_
  obtain ⟨G', S2, sg, r⟩ := S'.freeze n1 n2
  exact ⟨_, _, p, G', S2, Env.set i (Mono.env _ _ sg z.1) r, mR _ _ sg z.2⟩
end
end D4
end

section
set_option maxRecDepth 100000
set_option maxHeartbeats 4000000
/-! D6a: try .. except X as e; isinstance of what was caught. -/
namespace D4
open PySem L2
theorem Env.unset {K : Fg} {G : Hp} {σ : L2.St} {δ : Od} (i : Nat) (h : Env K G σ δ) : Env K G (σ.set i none) (δ.set i none) := by
  refine ⟨by simpa using h.1, fun j d e => ?_⟩
  by_cases hj : i = j
  · subst hj
    by_cases hi : i < δ.length
    · rw [List.getElem?_set_self hi] at e; cases e
    · rw [List.getElem?_eq_none (by simp; omega)] at e; cases e
  · rw [List.getElem?_set_ne hj] at e
    obtain ⟨v, h1, h2⟩ := h.2 j d e
    exact ⟨v, by rw [List.getElem?_set_ne hj]; exact h1, h2⟩
section
variable {X : Cx} {b : Bs} {δ : Od} {M : Mp} {x n : Str} {c : Value} {body suite : List Stmt} {b₀ : Stmt} {np pos pos' : Pos} {E : DE}
abbrev unE (i : Nat) (E : DE) : DE := { nx := fun M' δ' => E.nx M' (δ'.set i none), rt := E.rt, bk := fun M' δ' => E.bk M' (δ'.set i none), ct := fun M' δ' => E.ct M' (δ'.set i none) }
theorem sw_try_as (i : Nat) (hc : Names X x c) (hN : X.N.Nodup) (h : ∀ pn xe, PassesOwn (model X.prog X.w) X.A X.env xe → SWs (X.tr pn xe) b δ M body { E with xc := fun cls M' δ' => ∃ bb, PySem.W.exmOne X.K cls c = some bb ∧ (bb = true → ∀ a oe q, Zc cls none oe → (∃ vs, oe.data = .fields vs) → SWs (X.suite a ((a, oe) :: q)) b (δ'.set i (some (.loc (.ref a)))) M' (b₀ :: suite) (unE i E)) ∧ (bb = false → E.xc cls M' δ') })
    (hi : X.N[i]? = some n := by rfl) (hln : X.env.kindOf n = some .local := by rfl) (hs : X.stack = X.env :: X.outer := by rfl) (hf : X.env.frame = some X.env.locals := by rfl) :
    SW X b δ M (.Try body [.ExceptHandler (some (.Name x np)) (some n) (b₀ :: suite) pos'] [] [] pos) E := fun R mR σ H S kx => by
  refine ws_of (ps_try_as (i := i) (tb := fun W D σ H => ∀ pn xe, Takes (X.tr pn xe) W → PassesOwn (model X.prog X.w) X.A X.env xe → WSs (X.tr pn xe) body D σ H) (ts := fun a cls d D σ H => ∀ oe q, Zc cls d oe → (∃ vs, oe.data = .fields vs) → WSs (X.suite a ((a, oe) :: q)) (b₀ :: suite) D σ H) hs hf hN hi hln hc takes_wxc
    (fun W pn xe tk pa => ⟨fun pins s σ H D I h => (h pn xe tk pa).run pins s I⟩) (fun a oe cls d pn z1 z2 => ⟨fun pins s σ H D I h => (h _ _ z1 z2).run pins s I⟩)) ?_
  intro pn xe tk pa
  refine h pn xe pa R mR σ H S fun cls M' δ' σ' H' p S' => ?_
  refine wxc_of tk ?_
  obtain ⟨bb, e, h1, h2⟩ := p
  refine ⟨bb, e, fun hb a _ oe q z1 z2 => ?_, fun hb => kx cls M' δ' σ' H' (h2 hb) S'⟩
  have S2 : SS X.K b M' (RE X.K (σ'.set i (some (.ref a))) (δ'.set i (some (.loc (.ref a)))) R) H' := S'.imp fun G z => ⟨z.1.set i (Rep.loc_iff.mpr rfl), z.2⟩
  refine (h1 hb a oe q z1 z2 R mR _ H' S2 fun _ _ _ _ _ z => z.elim).mono (fun σ2 H2 ⟨M2, δ2, p2, S3⟩ => ⟨M2, _, p2, S3.imp fun G z => ⟨z.1.unset i, z.2⟩⟩) (fun v H ⟨M, d, p, S⟩ => ⟨M, d, p, S⟩) (fun σ2 H2 ⟨M2, δ2, p2, S3⟩ => ⟨M2, _, p2, S3.imp fun G z => ⟨z.1.unset i, z.2⟩⟩) (fun σ2 H2 ⟨M2, δ2, p2, S3⟩ => ⟨M2, _, p2, S3.imp fun G z => ⟨z.1.unset i, z.2⟩⟩)
/-- isinstance(e, C), e the error that the suite holds -/
theorem c_isE {a D C : Addr} {oe : Obj} {q : List (Addr × Obj)} {bb : Bool} (XC : ExcC X.K D) (hz : Zc (.ref D) none oe) (hf : ∃ vs, oe.data = .fields vs) (hk : PySem.W.kitOne X.K (.ref D) (.ref C) = some bb) :
    CW (X.suite a ((a, oe) :: q)) b (.builtin "isinstance") M [.loc (.ref a), .loc (.ref C)] (One M (.bl bb)) := fun R mR xs H Q S k => by
  refine wc_of (call_isE XC hz hf) ?_
  obtain ⟨G, S, z1, z2⟩ := S
  obtain ⟨v, r, e, r1, r2⟩ := z2.cons_inv
  obtain ⟨v2, r3, e2, r4, r5⟩ := r2.cons_inv
  subst e e2
  rw [r5.nil_inv, Rep.loc_iff.mp r1, Rep.loc_iff.mp r4]
  exact ⟨.ref C, .ref C, bb, rfl, fun u r => by cases r; rfl, hk, k M _ _ H ⟨rfl, rfl⟩ ⟨G, S, z1, Rep.bl_iff.mpr rfl⟩⟩
end
end D4
end

section
set_option maxRecDepth 100000
set_option maxHeartbeats 4000000
/-! D6e: what isinstance says of two own classes. -/
namespace D4
open PySem L2
theorem kit_same {K : Fg} {D : Addr} : PySem.W.kitOne K (.ref D) (.ref D) = some true := by
  unfold PySem.W.kitOne
  rw [if_pos (beq_self_eq_true _)]
theorem kit_other {K : Fg} {D C : Addr} (h0 : PySem.W.subIn K (.ref D) (.ref D) = some true) (h1 : PySem.W.isClsIn K C = true) (h2 : PySem.W.typeIn K (.ref C) = some (.type "type")) (h3 : PySem.W.subIn K (.ref D) (.ref C) = some false) : PySem.W.kitOne K (.ref D) (.ref C) = some false := by
  have hne : (Value.ref D == Value.ref C) = false := by
    rw [beq_eq_false_iff_ne]
    intro e
    cases e
    rw [h0] at h3; cases h3
  have e2 : ((PySem.W.clsIn K C).isSome && PySem.W.typeIn K (.ref C) == some (.type "type")) = true := by
    have h1' : (PySem.W.clsIn K C).isSome = true := h1
    rw [h1', h2] <;> rfl
  unfold PySem.W.kitOne
  rw [hne, if_neg Bool.false_ne_true]
  show (if ((PySem.W.clsIn K C).isSome && PySem.W.typeIn K (.ref C) == some (.type "type")) = true then PySem.W.subIn K (.ref D) (.ref C) else none) = some false
  rw [if_pos e2]; exact h3
end D4
end

section
set_option maxRecDepth 100000
set_option maxHeartbeats 4000000
/-! D6f: a def that is called in an except suite, handed the error that the suite holds. -/
namespace D4
open PySem PySem.Spec PyProof.Rows L2
/-- p stands for the error: its class, its data -/
structure ErrP (Dc : Addr) (p : Addr × Obj) : Prop where
  z : Zc (.ref Dc) none p.2
  f : ∃ vs, p.2.data = .fields vs
section
variable (P : Program) (w : World) (K : Fg) (mg : Str → Option Value) (base : Heap)
/-- handed an error of the class D it gives the text t, where T D t -/
def OkE (x : Str) (n : Str) (k : Nat) (T : Addr → Str → Prop) : Prop := ∃ f fd, mg x = some (.ref f) ∧ PySem.W.keepIn K (.ref f) = true ∧ Binds K fd [n] [] ∧
  ∀ (A : Around) (outer : List PySem.Env) (s : Shared) (H : Hp) (Q : VK) (p : Addr × Obj) (Dc : Addr) (t : Str), L2H.RoomH k A → L2H.PinOk outer H s p → ErrP Dc p → T Dc t → Env0 P w K mg base A outer s H → BindsTo s fd ⟨[.ref p.1], []⟩ ([n].zip [.ref p.1]) →
    spD K (PureS fun _ ds d => ds = [.loc (.ref p.1)] ∧ d = .str t) [.ref p.1] H Q (fun _ _ _ => False) → codeAny (model P w) A (.call (.ref f) ⟨[.ref p.1], []⟩) (CR (L2.CX P w) outer P w H s Q fun _ _ _ => False) s
end
section
variable {P : Program} {w : World} {K : Fg} {mg : Str → Option Value} {base : Heap}
theorem okE_mk {x n : Str} {st : Stmt} {N : List Str} {k : Nat} {T : Addr → Str → Prop} (F : FdOk K mg x [n] st) (sc : FnScope N [n] (defScope st))
    (hbody : ∀ (f : Addr) (cdv : Value) (A : Around) (outer : List PySem.Env) (s : Shared) (H : Hp) (p : Addr × Obj) (Dc : Addr) (t : Str), ErrP Dc p → T Dc t → L2H.RoomH k (A.deeper (envOfC x (defScope st) s.heap.objs.size f cdv)) → ∀ (b : Bs) (M : Mp) (Φ : Mp → D → Prop), Φ M (.str t) →
      SWs (L2H.cxH (L2.CX P w) P w K mg base N x (defScope st) f cdv A outer s H (fun _ _ _ => False) p) b (some (.loc (.ref p.1)) :: List.replicate (N.length - 1) none) M (defBody st) ⟨fun M _ => Φ M .non, Φ, fun _ _ => False, fun _ _ => False, fun _ _ _ => False⟩) :
    OkE P w K mg base x n (k + 1) T := by
  obtain ⟨f, fd, F, g, bd⟩ := F
  have kp := F.kp
  obtain ⟨oc, od, kV, dc, pm, an, cdv, ct, sl, rfl, lk, hcd⟩ := F.ex
  refine ⟨f, _, g, kp, bd, fun A outer s H Q p Dc t hr pin er hT e0 hb hsp => ?_⟩
  have kI : K.In s.heap := e0.mod.kin.keeps fun a o z => (e0.bs a o z).1
  have nl : s.heap.NoLimit := e0.mod.nolimit.keeps fun a o z => (e0.bs a o z).1
  have kd : ∀ y ∈ [n].zip [Value.ref p.1], (defScope st).names.lookup y.1 = some .local ∨ ((defScope st).names.lookup y.1 = some .cell ∧ ((cellsFrom (s.heap.objs.size + 1) (defScope st).names []).lookup y.1).isSome = true) := by
    rintro ⟨m, v⟩ hy
    exact (sc.par m (List.of_mem_zip hy).1).imp id fun q => ⟨q, PySem.W.cellsFrom_some _ _ _ (.inl q)⟩
  refine codeAny_call_function hr.depth (kI _ _ lk) rfl sc.co sc.gen rfl (PySem.W.codeRec_of kI hcd) (hb _ _ _ _ (wpAny_newFunctionEnv_cells sc.kind kd fun env he s1 ic => ?_))
  subst he
  refine ⟨nl.keeps ic.toInCall.keep, codeAny_func ?_⟩
  obtain ⟨G, M, ds, own, Φ, Ψ, S1, rp, ⟨d, ⟨rfl, rfl⟩, hΦ⟩, kk, _⟩ := hsp
  have J : Inv (L2H.cxH (L2.CX P w) P w K mg base N x (defScope st) f cdv A outer s H (fun _ _ _ => False) p) [] (L2.start N [.ref p.1]) H s1 := L2H.inv_startH sc pin e0 (vs := [.ref p.1]) rfl (.cons rfl .nil) ic
  have hb := hbody f cdv A outer s H p Dc t er hT (hr.deeper _) ⟨G, H, own⟩ M Φ hΦ
  have W := (hb (fun _ => True) .tt (L2.start N [.ref p.1]) H ⟨G, S1, ?_, trivial⟩ (fun _ _ _ _ _ z => z.elim)).run [] s1 J
  · refine wpAny_mono W (fun fl s2 q => ?_) fun _ _ q => q
    have fin : ∀ {σ2 : L2.St} {H2 : Hp} {v : V} {u : Value}, Inv (L2H.cxH (L2.CX P w) P w K mg base N x (defScope st) f cdv A outer s H (fun _ _ _ => False) p) [] σ2 H2 s2 → RelV v u → Q v H2 → CE outer P w H s Q u s2 := fun {σ2 H2 v u} J2 rv q2 => ⟨v, H2, J2.os, J2.bare, J2.base, J2.hok, rv, q2⟩
    rcases fl with _ | _ | _ | u
    · obtain ⟨σ2, H2, J2, M2, δ2, q2, S2⟩ := q
      exact fin (v := .non) (u := .none) J2 rfl (kk M2 .non .non H2 q2 (S2.imp fun G z => Rep.non_iff.mpr rfl))
    · obtain ⟨_, _, _, _, _, z, _⟩ := q; exact z.elim
    · obtain ⟨_, _, _, _, _, z, _⟩ := q; exact z.elim
    · obtain ⟨v, σ2, H2, J2, rv, M2, d2, q2, S2⟩ := q
      exact fin J2 rv (kk M2 d2 v H2 q2 S2)
  · have hp : 1 ≤ N.length := by have := congrArg List.length sc.pre; rw [List.length_take] at this; simp at this; omega
    unfold L2.start
    refine ⟨by simp, fun i d e => ?_⟩
    rcases i with _ | i
    · have e' : some (D.loc (.ref p.1)) = some d := by simpa using e
      cases e'
      exact ⟨.ref p.1, rfl, Rep.loc_iff.mpr rfl⟩
    · simp only [List.getElem?_cons_succ, List.getElem?_replicate] at e
      split at e <;> cases e
/-- isinstance in such a def -/
theorem c_isH {b : Bs} {M : Mp} {CX : CXT} {N : List Str} {x : Str} {sco : Scope} {f : Addr} {cdv : Value} {A : Around} {outer : List PySem.Env} {s : Shared} {H : Hp} {E : XK} {p : Addr × Obj} {Dc : Addr} {v : V} {cv : Value} {bb : Bool} (XC : ExcC K Dc) (er : ErrP Dc p) (hv : ∀ u, RelV v u → u = cv) (hk : PySem.W.kitOne K (.ref Dc) cv = some bb) :
    CW (L2H.cxH CX P w K mg base N x sco f cdv A outer s H E p) b (.builtin "isinstance") M [.loc (.ref p.1), .loc v] (One M (.bl bb)) := fun R mR xs H1 Q S k => by
  refine ⟨fun pins s1 σ us I rx => ?_⟩
  obtain ⟨G, S, z1, z2⟩ := S
  obtain ⟨v1, r, e, r1, r2⟩ := z2.cons_inv
  obtain ⟨v2, r3, e2, r4, r5⟩ := r2.cons_inv
  subst e e2
  rw [r5.nil_inv, Rep.loc_iff.mp r1, Rep.loc_iff.mp r4] at rx
  rcases rx with _ | ⟨a1, rx⟩
  rcases rx with _ | ⟨a2, rx⟩
  cases rx
  cases a1
  have e3 := hv _ a2
  subst e3
  obtain ⟨hg, _⟩ := I.pin p (List.mem_append.mpr (.inl List.mem_cons_self))
  have J : PySem.W.InstAt s1.heap p.1 p.2 Dc none := by
    obtain ⟨h1, h2⟩ := er.z
    obtain ⟨vs, h3⟩ := er.f
    obtain ⟨a, ⟨oc, od, oda, osl⟩⟩ := p
    dsimp only at h1 h2 h3 hg
    subst h1 h2 h3
    exact ⟨hg, rfl, rfl, trivial⟩
  exact PySem.W.kia_one (PySem.W.handS_kitx_exc XC.hg XC.hk XC.hs XC.hd XC.ha XC.hn XC.ht XC.hm) I.kIn J hk (fun z => nomatch z) fun tk => ⟨.bl bb, H1, I.kept (t' := tk) fun _ _ z => z, rfl, k M _ _ H1 ⟨rfl, rfl⟩ ⟨G, S, z1, Rep.bl_iff.mpr rfl⟩⟩
/-- .. in the suite itself, any class -/
theorem c_isE' {X : Cx} {b : Bs} {M : Mp} {a Dc : Addr} {oe : Obj} {q : List (Addr × Obj)} {bb : Bool} {v : V} {cv : Value} (XC : ExcC X.K Dc) (hz : Zc (.ref Dc) none oe) (hf : ∃ vs, oe.data = .fields vs) (hv : ∀ u, RelV v u → u = cv) (hk : PySem.W.kitOne X.K (.ref Dc) cv = some bb) :
    CW (X.suite a ((a, oe) :: q)) b (.builtin "isinstance") M [.loc (.ref a), .loc v] (One M (.bl bb)) := fun R mR xs H Q S k => by
  refine wc_of (call_isE XC hz hf) ?_
  obtain ⟨G, S, z1, z2⟩ := S
  obtain ⟨v1, r, e, r1, r2⟩ := z2.cons_inv
  obtain ⟨v2, r3, e2, r4, r5⟩ := r2.cons_inv
  subst e e2
  rw [r5.nil_inv, Rep.loc_iff.mp r1, Rep.loc_iff.mp r4]
  exact ⟨v, cv, bb, rfl, hv, hk, k M _ _ H ⟨rfl, rfl⟩ ⟨G, S, z1, Rep.bl_iff.mpr rfl⟩⟩
/-- the call -/
theorem ev_callE {X : Cx} {b : Bs} {δ : Od} {M : Mp} {x n : Str} {k l : Nat} {T : Addr → Str → Prop} {a Dc : Addr} {oe : Obj} {q : List (Addr × Obj)} {e : Expr} {p pos : Pos} {t : Str} (G : OkE X.prog X.w X.K X.mg X.base x n k T) (hr : Room l X.A) (hg : Gl X x) (h : EV (X.suite a ((a, oe) :: q)) b δ M e (.loc (.ref a))) (hz : Zc (.ref Dc) none oe) (hf : ∃ vs, oe.data = .fields vs) (hT : T Dc t)
    (hj : k ≤ l := by decide) (hdb : (x == ("__debug__" : Str)) = false := by decide) (he : starEach [e] X.env = (false, eval e X.env) :: starEach [] X.env := by exact D4.starEach_c rfl) (hpl : (backTo pos (starEach [] X.env)).any (·.1) = false := by exact D4.back_any rfl) :
    EV (X.suite a ((a, oe) :: q)) b δ M (.Call (.Name x p) [e] [] pos) (.str t) := fun R mR σ H Q S kk kx => by
  obtain ⟨f, fd, hm, kp, bd, run⟩ := G
  have hr' : L2H.RoomH k (X.suite a ((a, oe) :: q)).A := ⟨(hr.mono hj).dp, (hr.mono hj).un⟩
  refine ⟨fun pins s I => wpAny_Call_Name_kw (ld_glob I hg hm ?_ hdb)⟩
  refine PySem.W.callWith_K (h₀ := X.base) I.ok.mod.kin kp (thn ((EWs.to (evs_cons h evs_nil he) (Φ := fun M' d' => M = M' ∧ [D.loc (.ref a)] = d') (Ψ := NX) ⟨rfl, rfl⟩ R mR σ H (fun vs H1 => SS X.K b M (RVs X.K σ δ R [.loc (.ref a)] vs) H1) S (fun M' d v H' ⟨e1, e2⟩ S' => by subst e1 e2; exact S') .nx).run pos pins s I) fun us s1 ⟨vs, H1, I1, r, S1⟩ => ⟨I1.kIn, ?_⟩) he hpl
  have ev : vs = [.ref a] := by
    obtain ⟨_, _, _, _, z⟩ := S1
    obtain ⟨v1, r1, e1, r2, r3⟩ := z.cons_inv
    rw [e1, r3.nil_inv, Rep.loc_iff.mp r2]
  subst ev
  rcases r with _ | ⟨a1, r⟩
  cases r
  cases a1
  have P1 := I1.pin (a, oe) (List.mem_append.mpr (.inl List.mem_cons_self))
  have b1 := bd s1 [.ref a] I1.kIn rfl
  rw [List.append_nil] at b1
  have sp : spD X.K (PureS fun _ ds d => ds = [.loc (.ref a)] ∧ d = .str t) [.ref a] H1 Q (fun _ _ _ => False) := CallS.sp (Ψ := NX) (.pure ⟨rfl, rfl⟩ (Φ := fun M' d' => M = M' ∧ D.str t = d') ⟨rfl, rfl⟩) mR S1 (fun M' d v H' ⟨e1, e2⟩ S' => kk M' d v H' ⟨e1, e2⟩ S') (fun _ _ _ z => z.elim)
  refine wpAny_call (codeAny_mono (run _ _ s1 H1 Q (a, oe) Dc t hr' ⟨P1.1, P1.2.1, fun hm => (List.mem_cons.mp (I1.stkSub a hm)).elim P1.2.2.1 P1.2.2.2.1, P1.2.2.2.2⟩ ⟨hz, hf⟩ hT I1.env0 b1 sp) fun r s2 hq => ?_)
  rcases r with er | fl
  · obtain ⟨_, _, _, _, _, _, _, _, _, _, _, _, z⟩ := hq
    exact z.elim
  · rcases fl with _ | _ | _ | u
    · exact hq.elim
    · exact hq.elim
    · exact hq.elim
    · exact I1.after hq
end
end D4
end

section
set_option maxRecDepth 100000
set_option maxHeartbeats 4000000
/-! D6g: texts added, a text taken once or not at all; isinstance of an own class's instance. -/
namespace D4
open PySem PySem.Spec PyProof.Rows L2
def repS (c : Bool) (s : Str) : Str := if c then s else Str.empty
section
variable {X : Cx} {b : Bs} {M : Mp}
theorem op_mulS : OpR X (binaryOp .Mult) (fun x y H Q => ∃ (s : Str) (c : Bool), x = .str s ∧ y = .int (if c then 1 else 0) ∧ Q (.str (repS c s)) H) := by
  intro pins s σ H x y v u Q I rx ry h
  obtain ⟨z, c, rfl, rfl, q⟩ := h
  obtain ⟨t, rfl⟩ := rx
  obtain ⟨tk, rfl⟩ := ry
  have e : Txt.mul z (if c then 1 else 0) = repS c z := by
    unfold Txt.mul repS
    cases c <;> simp
  refine SB.mul ?_ fun t' k => ⟨.str (Txt.mul z (if c then 1 else 0)), H, I.tok _, ⟨_, rfl⟩, by rw [e]; exact q⟩
  cases c
  · exact ⟨by decide, fun h => absurd (by decide) h, fun h => absurd (by decide) h⟩
  · exact ⟨by decide, fun _ h => (by simp at h), fun _ h => (by simp at h)⟩
theorem o_mulS {s : Str} {c : Bool} : OW X b (binaryOp .Mult) M (.str s) (.int (if c then 1 else 0)) (One M (.str (repS c s))) := ow_of op_mulS fun R mR x y H G Q S z r1 r2 k =>
  ⟨s, c, Rep.str_iff.mp r1, Rep.int_iff.mp r2, k _ _ _ H ⟨rfl, rfl⟩ ⟨G, S, z, Rep.str_iff.mpr rfl⟩⟩
theorem o_catS {s t : Str} (hl : s.length + t.length ≤ sizeLine) : OW X b (binaryOp .Add) M (.str s) (.str t) (One M (.str (s ++ t))) := ow_of op_add_str fun R mR x y H G Q S z r1 r2 k =>
  ⟨s, t, Rep.str_iff.mp r1, Rep.str_iff.mp r2, hl, k _ _ _ H ⟨rfl, rfl⟩ ⟨G, S, z, Rep.str_iff.mpr rfl⟩⟩
/-- what an own class must say, so that isinstance asks its instances rightly -/
structure InsC (K : Fg) (C : Addr) : Prop where
  cl : Cls K C
  ha : PySem.W.findIn K (.ref C) "__class__" = some (some (.builtin "object.__class__"))
  hn : PySem.W.specialIn K (.builtin "object.__class__") "__get__" = some (some (.builtin "getset_descriptor.__get__"))
  ht : PySem.W.takesIn K (.builtin "object.__class__") = some true
  hm : PySem.W.mroIn K C (.type "object") = some true
theorem kit_tyB {K : Fg} {C : Addr} {T : String} {bb : Bool} (hm : PySem.W.kitMeta T = true) (h : PySem.W.subIn K (.ref C) (.type T) = some bb) : PySem.W.kitOne K (.ref C) (.type T) = some bb := by
  unfold PySem.W.kitOne
  rw [show (Value.ref C == Value.type T) = false from rfl, if_neg Bool.false_ne_true]
  show (if PySem.W.kitMeta T = true then PySem.W.subIn K (.ref C) (.type T) else none) = _
  rw [if_pos hm]; exact h
theorem c_isIns {C h dx : Addr} {fs : List (Str × D)} {T : String} {bb : Bool} (I : InsC X.K C) (hm : M h = some (.ins C dx fs)) (hk : PySem.W.kitOne X.K (.ref C) (.type T) = some bb) : CW X b (.builtin "isinstance") M [.loc (.ref h), .loc (.ty T)] (One M (.bl bb)) := cw_of call_isi fun R mR vs H G Q S z r k => by
  obtain ⟨v, w, rfl, r1, r2⟩ := reps2 r
  rw [Rep.loc_iff] at r1 r2
  subst r1 r2
  obtain ⟨_, o, ho, ho2⟩ := S.cel _ _ hm
  obtain ⟨vs, e, _⟩ := ho2
  subst e
  exact ⟨.ref h, .ty T, .ref C, .type T, bb, rfl, .ty T, .base (.ins ho I.cl I.ha I.hn I.ht I.hm), hk, k _ _ _ H ⟨rfl, rfl⟩ ⟨G, S, z, Rep.bl_iff.mpr rfl⟩⟩
end
end D4
end

section
set_option maxRecDepth 100000
set_option maxHeartbeats 4000000
/-! D6i: a list comprehension whose element is a call that may raise. -/
namespace D4
open PySem PySem.Spec PyProof.Rows L2
theorem frames_but {B h h' : Heap} : ∀ {l : List PySem.Env}, h.FunFrames B l → (∀ L ∈ frs l, h'.get? L = h.get? L) → h'.FunFrames B l
  | [], _, _ => trivial
  | env :: l, ⟨q1, ⟨L, o, q2, q3, q4, q5⟩, q6⟩, e => ⟨q1, ⟨L, o, q2, q3, (e L (List.mem_filterMap.mpr ⟨env, List.mem_cons_self, q2⟩)).trans q4, q5⟩, frames_but q6 fun x hx => by
      obtain ⟨y, hy, q⟩ := List.mem_filterMap.mp hx
      exact e x (List.mem_filterMap.mpr ⟨y, List.mem_cons_of_mem _ hy, q⟩)⟩
/-- the block's context, with what its element lets out -/
abbrev BlkX (X : Cx) (s : Shared) (H : Hp) (scope : Scope) (ce : PySem.Env) (fp : List Addr) (pn : List (Addr × Obj)) (xe : Value → Shared → Prop) : Cx := (X.blk s H scope ce fp).tr pn xe
section
variable {X : Cx} {pins pb pn : List (Addr × Obj)} {σ σb : L2.St} {H3 H5 : Hp} {s3 s5 s6 : Shared} {scope : Scope} {fp : List Addr} {C : Addr} {cl : List (Str × Addr)} {xe : Value → Shared → Prop} {u : Value}
theorem blk_raise (I3 : Inv X pins σ H3 s3) (hstk : X.stack = X.env :: X.outer) (hfr : X.env.frame = some X.env.locals) (hC : s3.heap.objs.size ≤ C) (hfp : ∀ b ∈ fp, FpOk X pins H3 b)
    (I5 : Inv (BlkX X s3 H3 scope (compEnvC scope cl C X.env) fp pn xe) pb σb H5 s5) (c : L2.CX X.prog X.w X.stack H5 s5 (fun cls d H' => WXc X cls d σ H') u s6) :
    notedBy (model X.prog X.w) X.A (compEnvC scope cl C X.env) (CompFails (model X.prog X.w) X.A X.xe (compEnvC scope cl C X.env)) u s6 := by
  obtain ⟨a, B, H6, cls, d, rfl, fl, hok, ub, na, os, ag, hE⟩ := c
  obtain ⟨B', b1, b2⟩ := restrict B fun b => decide (b ≠ C)
  have bn : B'.get? C = none := b2 C (by simp)
  have bs : ∀ b o, B'.get? b = some o → b ≠ C ∧ B.get? b = some o := fun b o e => by
    by_cases hb : b = C
    · rw [hb, bn] at e; cases e
    · exact ⟨hb, by rw [← b1 b (by simp [hb])]; exact e⟩
  have bk : ∀ b o, b ≠ C → B.get? b = some o → B'.get? b = some o := fun b o hb e => by rw [b1 b (by simp [hb])]; exact e
  have bz : ∀ b, B.get? b = none → B'.get? b = none := fun b e => by
    cases q : B'.get? b with
    | none => rfl
    | some o => rw [(bs b o q).2] at e; cases e
  obtain ⟨st, hen, ff, oe, vs, T, oT, ts, he, hz, hd, h1, hnT, hTe, hT, hdT, h3⟩ := id fl
  have fl' : HandSPX.FlyingZ B' (X.env :: X.outer) a (Zc cls d) s6.heap := by
    rw [← hstk]
    exact ⟨fun b o e => st b o (bs b o e).2, bz a hen, funFrames_none ff (fun L hL => bz L (ff.mem hL).1), oe, vs, T, oT, ts, he, hz, hd, h1, bz T hnT, hTe, hT, hdT, h3⟩
  -- the block's own names
  obtain ⟨m, ⟨oC, es, ep, hoC, hdC, hr⟩, _⟩ := I5.loc
  have hHC : H5 C = none := I5.free
  have hCf : C ∉ frs X.stack := fun hm => by
    obtain ⟨_, o, ho, _⟩ := I3.stack.mem hm
    exact absurd (Heap.lt_size ho) (Nat.not_lt.mpr hC)
  have hBC := ub.keep C oC hoC hHC hCf
  have h6C := st C oC hBC
  have hH6C : H6 C = none := ub.free C oC hoC hHC
  show wpAny _ _ (noteFrame (.ref a) (compEnvC scope cl C X.env)) _ _ s6
  rw [noteFrame_env (.ref a) (cenv := compEnvC scope cl C X.env) (env := X.env) rfl]
  refine HandSPX.looks_onZ Zc.steady (by rw [← hstk]; exact I3.ok.frames) hfr fl' fun h7 hh7 up7 => ?_
  obtain ⟨sl7, e7⟩ := up7 C oC h6C fun vs q => by rw [hdC] at q; cases q
  refine ⟨m, ⟨_, es, ep, e7, hdC, hr⟩, fun h8 m8 _ sb8 => ?_⟩
  obtain ⟨st7, en7, ff7, oe7, vs7, T7, oT7, ts7, he7, hz7, hd7, h17, hn7, hT7, hTT, hdT7, h37⟩ := id hh7
  have neC : ∀ {b : Addr} {o : Obj} {v : Array Value}, h7.get? b = some o → o.data = .fields v → b ≠ C := fun {b o v} e q hb => by
    rw [hb, e7] at e; cases e
    have q' : oC.data = .fields v := q
    rw [hdC] at q'; cases q'
  have k8 : ∀ b, b ≠ C → h8.get? b = h7.get? b := fun b hb => sb8.2 b hb
  have hh8 : HandSPX.HeldZ B' (X.env :: X.outer) a (Zc cls d) X.env.locals h8 := by
    refine ⟨fun b o e => (k8 b (bs b o e).1).trans (st7 b o e), en7, frames_but ff7 fun L hL => k8 L fun e => hCf (by rw [hstk]; exact e ▸ hL), oe7, vs7, T7, oT7, ts7, (k8 a (neC he7 hd7)).trans he7, hz7, hd7, h17, hn7, hT7, (k8 T7 (neC hTT hdT7)).trans hTT, hdT7, h37⟩
  unfold PySem.passOn
  refine wpAny_bind (wpAny_field ((k8 a (neC he7 hd7)).trans he7) hd7 h17 ?_)
  rw [if_neg (show ¬ ((Value.ref T7 == Value.none) = true) from by simp)]
  show wpAny _ _ (do setFlight (.ref a) X.env.frame; throw (.ref a)) _ _ _
  rw [hfr]
  refine wpAny_bind (HandSPX.setFlight_onZ (s := { s6 with heap := h8 }) hh8 fun h9 hh9 up9 => wpAny_throw (hE.run _ _ ?_))
  -- back in the def's context
  have up : ∀ b o, b ≠ C → s6.heap.get? b = some o → (∀ v, o.data ≠ .fields v) → ∃ sl, h9.get? b = some { o with slots := sl } := fun b o hb e q => by
    obtain ⟨x1, y1⟩ := up7 b o e q
    obtain ⟨x2, y2⟩ := up9 b _ ((k8 b hb).trans y1) q
    exact ⟨x2, y2⟩
  obtain ⟨G, g1, g2⟩ := restrict h9 fun b => (B'.get? b).isSome || decide (b ∈ frs X.stack)
  have gB : ∀ b o, B'.get? b = some o → G.get? b = some o := fun b o e => by
    rw [g1 b (by simp [e])]; exact hh9.1 b o e
  have gF : ∀ b, b ∈ frs X.stack → G.get? b = h9.get? b := fun b hb => g1 b (by simp [hb])
  have og : ∀ b o, G.get? b = some o → h9.get? b = some o ∧ ((B'.get? b).isSome = true ∨ b ∈ frs X.stack) := fun b o e => by
    cases q : ((B'.get? b).isSome || decide (b ∈ frs X.stack)) with
    | false => rw [g2 b q] at e; cases e
    | true => rw [g1 b q] at e; exact ⟨e, by simpa [Bool.or_eq_true] using q⟩
  have lt3 : ∀ b o, s3.heap.get? b = some o → b ≠ C := fun b o e => Nat.ne_of_lt (Nat.lt_of_lt_of_le (Heap.lt_size e) hC)
  have base := I5.base
  have fsl : ∀ b o, s3.heap.get? b = some o → H3 b = none → b ∈ frs X.stack → b ∉ fp → ∃ sl, G.get? b = some { o with slots := sl } := fun b o e n hb hx => by
    obtain ⟨x1, y1⟩ := base.slot b o e n hb hx
    obtain ⟨x2, y2⟩ := ub.slot b _ y1 hb
    have nf : ∀ v, o.data ≠ .fields v := by
      obtain ⟨_, o', e', q⟩ := I3.stack.mem hb
      rw [e] at e'; cases e'; exact q
    obtain ⟨x3, y3⟩ := up b _ (lt3 b o e) y2 nf
    exact ⟨x3, by rw [gF b hb]; exact y3⟩
  refine ⟨a, B', { s3 with heap := G, gens := s6.gens, drawn := s6.drawn, toks := s6.toks }, pins, σ, H6, cls, d, rfl, ?_, fun b o e hb => ?_, Heap.UpToSlots.of_keeps fun b o e => (og b o e).1, .inr (.inr (by rw [hstk]; exact hh9)), na, os.trans I5.os, ag, rfl, rfl, rfl, rfl⟩
  · refine I3.call' (ch := fp) rfl ⟨fun b o e n hb hx => ?_, fun b o e n hb hx => fsl b o e n hb hx, fun b o e n hx => ?_, fun b o e hx => ?_, fun b xs e => ub.tups b xs (base.tups b xs e), fun b o xs e => ub.frzs b o xs (base.frzs b o xs e), fun b ps e => ?_⟩ (fun b o q => ?_) ag fun b hb => ⟨(hfp b hb).2.2.2.1, (hfp b hb).2.1, (hfp b hb).2.2.2.2.1, (hfp b hb).2.2.2.2.2⟩
    · exact gB b o (bk b o (lt3 b o e) (ub.keep b o (base.keep b o e n hb hx) (base.free b o e n hx) hb))
    · obtain ⟨o', e'⟩ := base.there b o e hx
      exact ub.free b o' e' (base.free b o e n hx)
    · by_cases hb : b ∈ frs X.stack
      · obtain ⟨x, y⟩ := fsl b o e (I3.stkFree b hb) hb hx
        exact ⟨_, y⟩
      · obtain ⟨o', e'⟩ := base.there b o e hx
        obtain ⟨o2, e2⟩ := ub.there b o' e' hb
        exact ⟨o2, gB b o2 (bk b o2 (lt3 b o e) e2)⟩
    · obtain ⟨m1, e1⟩ := base.tbls b ps e
      obtain ⟨m2, e2⟩ := ub.tbls b _ e1
      exact ⟨m1 ++ m2, by rw [← Array.append_assoc]; exact e2⟩
    · refine (hok b o q).stay (fun c u hc r => gB c u (bk c u (fun e => ?_) r)) (fun _ r => r) fun _ _ r => r
      rcases hc with hc | hc
      · rw [← hc, e, hH6C] at q; cases q
      · rw [e, hH6C] at hc; cases hc
  · obtain ⟨e', h⟩ := og b o e
    rcases h with h | h
    · obtain ⟨o', q⟩ := Option.isSome_iff_exists.mp h
      have z := hh9.1 b o' q
      rw [e'] at z; cases z
      exact q
    · exact absurd h hb
end
end D4
end

section
set_option maxRecDepth 100000
set_option maxHeartbeats 4000000
/-! D6j: [f(x) for x in xs], where f may raise. -/
namespace D4
open PySem PySem.Spec PyProof.Rows L2
section
variable {X : Cx}
theorem pe_lcX {elt tg iter : Expr} {scope : Scope} {own : List (Str × Nat)} {pos : Pos} {wi : TI} {g : TG} {te : L2.St → TE} (hc : X.calm = true) (hN : X.N.Nodup) (hi : PI X tg iter wi) (ok : BlkOk X.N X.env.scope scope own)
    (hstk : X.stack = X.env :: X.outer) (hfr : X.env.frame = some X.env.locals)
    (hg : ∀ (sb : Shared) (Hb : Hp) (Cb : Addr) (cl : List (Str × Addr)) (fp : List Addr), PG (X.blk sb Hb scope (compEnvC scope cl Cb X.env) fp) tg g)
    (he : ∀ (σ0 : L2.St) (sb : Shared) (Hb : Hp) (Cb : Addr) (cl : List (Str × Addr)) (fp : List Addr) (pn : List (Addr × Obj)) (xe : Value → Shared → Prop),
      (∀ pb σb H5 s5 u s6, Inv (BlkX X sb Hb scope (compEnvC scope cl Cb X.env) fp pn xe) pb σb H5 s5 → L2.CX X.prog X.w X.stack H5 s5 (fun cls d H' => WXc X cls d σ0 H') u s6 → xe u s6) →
        PE (BlkX X sb Hb scope (compEnvC scope cl Cb X.env) fp pn xe) elt (te σ0))
    (hs : ∀ x, foldedSetIterable iter X.env x = pure x := by intro _; rfl) :
    PE X (.ListComp elt [⟨tg, iter, [], 0⟩] scope pos) (fun σ H Q => tLc wi g tYes (te σ) (own.map (·.2)) σ H Q) := by
  refine ⟨fun pins s σ H Q I0 h => ?_⟩
  rw [eval_ListComp]
  have cap : ∀ y ∈ scope.names, y.2 = .free → ∃ c, X.env.cells.lookup y.1 = some c := fun y hy e => (ok.free y hy e).elim (fun k => I0.ok.has _ (.inl k)) (fun k => I0.ok.has _ (.inr k))
  refine comprehension_at (use := none) rfl hs (closure_ok cap) ok.kind (fun y hy e => (ok.uniq y hy).trans (by rw [e])) (thn (hi.run pins s σ H _ I0 h) fun xv s1 hx => thn hx fun itv s2 hit => ?_)
  obtain ⟨it, fp, tn, J, H2, rfl, I2, T, st2, f2, q⟩ := hit
  refine wpAny_newObj_type (newEnv_comp ?_) (Nat.zero_le _)
  generalize hD : s2.heap.objs.size = L
  have hLn : H2 L = none := I2.hok.fresh (Nat.le_of_eq hD)
  obtain ⟨W, ⟨m0, w0⟩, turn⟩ := q L hLn
  generalize hsL : ({ s2 with heap := s2.heap.push { cls := .type "list", data := .seq ([] : List Value).toArray } } : Shared) = sL
  have hh : sL.heap = s2.heap.push { cls := .type "list", data := .seq ([] : List Value).toArray } := by rw [← hsL]
  have IL : Inv X pins σ (upd H2 L (.lst [])) sL := by
    subst hsL
    exact I2.laid (t' := s2.toks) (fun b o e => Heap.get?_push_of_some _ e) (Nat.le_of_eq hD) ⟨Nat.zero_le _, [], 0, .nil, hD ▸ Heap.get?_push_size _ rfl⟩
  have fL : ∀ b ∈ fp, FpOk X pins (upd H2 L (.lst [])) b ∧ b < sL.heap.objs.size := fun b hb => by
    obtain ⟨o, e, _⟩ := T.obj _ _ st2 b hb
    have hlt : b < s2.heap.objs.size := Heap.lt_size e
    exact ⟨⟨(upd_ne (hD ▸ Nat.ne_of_lt hlt)).trans (f2 b hb).1, (f2 b hb).2⟩, by rw [hh, Heap.size_push]; exact Nat.lt_succ_of_lt hlt⟩
  have stL : tn 0 sL.heap := T.keep _ _ _ st2 fun b _ o e => by rw [hh]; exact Heap.get?_push_of_some _ e
  have IB := block_start IL ok hN fL
  have pg := hg sL (upd H2 L (.lst [])) sL.heap.objs.size (cellsFrom (sL.heap.objs.size + 1) scope.names (cloFrom X.env.cells scope.names [])) fp
  have pe := he σ sL (upd H2 L (.lst [])) sL.heap.objs.size (cellsFrom (sL.heap.objs.size + 1) scope.names (cloFrom X.env.cells scope.names [])) fp
  have br := fun pn xe pb σb H5 s5 u s6 => blk_raise (X := X) (pins := pins) (σ := σ) (pn := pn) (xe := xe) (pb := pb) (σb := σb) (H5 := H5) (s5 := s5) (u := u) (s6 := s6) (cl := cellsFrom (sL.heap.objs.size + 1) scope.names (cloFrom X.env.cells scope.names [])) (scope := scope) IL hstk hfr (Nat.le_refl sL.heap.objs.size) (fun b hb => (fL b hb).1)
  show codeAny _ _ (.compStart (.ListComp elt [⟨tg, iter, [], 0⟩] scope pos) 0 (.ref it) (.ref L) (compEnvC scope (cellsFrom (sL.heap.objs.size + 1) scope.names (cloFrom X.env.cells scope.names [])) sL.heap.objs.size X.env))
    (compEnds (model X.prog X.w) X.A X.xe none (EP X pins σ Q) (.ref L) (compEnvC scope (cellsFrom (sL.heap.objs.size + 1) scope.names (cloFrom X.env.cells scope.names [])) sL.heap.objs.size X.env)) { sL with heap := pushCells (sL.heap.push { cls := .type "dict", data := .dict #[] }) scope.names }
  have nfp : ∀ b ∈ fp, (upd H2 L (.lst [])) b = none := fun b hb => (fL b hb).1.1
  generalize hce : compEnvC scope (cellsFrom (sL.heap.objs.size + 1) scope.names (cloFrom X.env.cells scope.names [])) sL.heap.objs.size X.env = ce at IB pg pe br ⊢
  have cL : ce.locals = sL.heap.objs.size := by rw [← hce]; rfl
  generalize hHL : upd H2 L (.lst []) = HL at IL IB pg pe br w0 nfp fL
  generalize hsB : ({ sL with heap := pushCells (sL.heap.push { cls := .type "dict", data := .dict #[] }) scope.names } : Shared) = sB at IB ⊢
  have stB : tn 0 sB.heap := T.keep _ _ _ stL fun b _ o e => by rw [← hsB]; exact pushCells_keeps _ _ _ _ (Heap.get?_push_of_some _ e)
  have still : ∀ {σ' : L2.St} {H' : Hp} {s' : Shared}, Inv (X.blk sL HL scope ce fp) [] σ' H' s' → (∀ b ∈ fp, H' b = none) → ∀ b ∈ fp, FpOk (X.blk sL HL scope ce fp) [] H' b := fun {σ' H' s'} I' hn b hb =>
    ⟨hn b hb, (I'.ok.exf b hb).1, I'.ok.exfs b hb, .inl hb, (I'.ok.exf b hb).2, fun p hp => by cases (hp : p ∈ ([] : List (Addr × Obj)))⟩
  have loop : codeAny (model X.prog X.w) X.A (.compLoop (.ListComp elt [⟨tg, iter, [], 0⟩] scope pos) 0 (.ref it) (.ref L) ce) (compEnds (model X.prog X.w) X.A X.xe none (EP X pins σ Q) (.ref L) ce) sB := by
    refine compLoop_any (fun n s' => ∃ i H', Inv (X.blk sL HL scope ce fp) [] (wipe σ (own.map (·.2))) H' s' ∧ tn i s'.heap ∧ (∀ b ∈ fp, H' b = none) ∧ W i n H') (fun n s5 hI => ?_) m0 ⟨0, HL, IB, stB, nfp, w0⟩
    obtain ⟨i, H5, I5, st5, n5, w5⟩ := hI
    rcases turn i n H5 w5 with ⟨stop, qq⟩ | ⟨go, Nx, hNx, step⟩
    · refine thnF (T.done (X.blk sL HL scope ce fp) rfl rfl rfl hc i [] s5 _ H5 (fun _ _ => False) I5 (still I5 n5) st5 stop) fun r s6 hr => ?_
      obtain ⟨hr, I6⟩ := hr
      subst hr
      have I7 : Inv X pins σ H5 s6 := IL.call' (ch := fp) I6.os I6.base I6.hok I6.bare fun b hb => ⟨(fL b hb).1.2.2.2.1, (fL b hb).1.2.1, (fL b hb).1.2.2.2.2.1, (fL b hb).1.2.2.2.2.2⟩
      have nC : H5 sL.heap.objs.size = none := cL ▸ (I6.free : H5 ce.locals = none)
      obtain ⟨m, hn, _⟩ := I6.loc
      obtain ⟨x0, x1, x2, x3, x4, x5⟩ := IL.fpOk (Nat.le_refl sL.heap.objs.size) nC
      exact ⟨m, hn, fun hz sb => ⟨.ref L, H5, I7.turned (t' := s6.toks) (fun b o hb e => (sb.2 b (cL ▸ hb)).trans e) x0 x1 x3 x4 x5, rfl, qq⟩⟩
    · refine thnF (T.item (X.blk sL HL scope ce fp) rfl rfl rfl hc i [] s5 _ H5 (fun _ _ => False) I5 (still I5 n5) st5 go) fun r s6 hr => ?_
      obtain ⟨u, hr, h6⟩ := hr
      subst hr
      refine thnF h6 fun _ s7 hy => ?_
      obtain ⟨x, H7, I7, r7, y7, st7, n7⟩ := hy
      refine thnF (pg.run _ s7 _ H7 x u _ (I7.pinned (still I7 n7) (T.obj _ _ st7)) r7 (step x H7 y7)) fun _ s8 hy => ?_
      obtain ⟨σ8, H8, I8, hw8, q8⟩ := hy
      refine wpAny_tests_nil ?_
      have q9 : te σ σ8 H8 fun y H4 => ∃ acc, H4 L = some (.lst acc) ∧ acc.length < sizeLine ∧ Nx (upd H4 L (.lst (acc ++ [y]))) := q8
      rw [if_pos rfl]
      have run := (pe (([] : List (Addr × Obj)) ++ (([] : List (Addr × Obj)) ++ pinsAt fp s7.heap)) (notedBy (model X.prog X.w) X.A ce (CompFails (model X.prog X.w) X.A X.xe ce)) (fun pb σb H5 s5 u s6 I' c => br _ _ pb σb H5 s5 u s6 I' c)).run [] s8 σ8 H8 _ (I8.toTry _) q9
      refine wpAny_mono run (fun z s10 hz => ?_) (fun u s' hh => hh)
      obtain ⟨yv, H10, I10, r10, acc, hL10, hz10, nx⟩ := hz
      have I10 : Inv (X.blk sL HL scope ce fp) ([] ++ pinsAt fp s7.heap) σ8 H10 s10 := I10.ofTry I8.ok
      refine app_ok (X := X.blk sL HL scope ce fp) I10 hL10 hz10 r10 fun s11 I11 => ?_
      obtain ⟨m', hm, w'⟩ := hNx _ nx
      have pinned : ∀ b ∈ fp, ∀ o, s7.heap.get? b = some o → s11.heap.get? b = some o ∧ (upd H10 L (.lst (acc ++ [yv]))) b = none := fun b hb o e =>
        have z := I11.pin (b, o) (List.mem_append_right _ (List.mem_append_right _ (mem_pinsAt hb e)))
        ⟨z.1, z.2.1⟩
      refine ⟨m', hm, i + 1, _, (I11.unpinned (pins := [])).weak (by rw [← wipe_length σ8, hw8]) (fun j v e => (wipe_some (hw8.symm ▸ e)).1), T.keep _ _ _ st7 fun b hb o e => (pinned b hb o e).1, fun b hb => ?_, w'⟩
      obtain ⟨o, e, _⟩ := T.obj _ _ st7 b hb
      exact (pinned b hb o e).2
  exact codeAny_compStart_list loop (T.self X.A 0 _ _ _ stB loop)
end
end D4
end

section
set_option maxRecDepth 100000
set_option maxHeartbeats 4000000
/-! D6k: [f(x) for x in xs] by data, where f may raise. -/
namespace D4
open PySem L2
def outs (f : D → D ⊕ Value) : List D → List D ⊕ Value
  | [] => .inl []
  | x :: xs => match f x with
    | .inr c => .inr c
    | .inl d => match outs f xs with
      | .inl ds => .inl (d :: ds)
      | .inr c => .inr c
theorem outs_val {f : D → D ⊕ Value} {d d' : D} (e : f d = .inl d') : ∀ {l acc : List D}, outs f l = .inl acc → outs f (l ++ [d]) = .inl (acc ++ [d'])
  | [], acc, h => by
    simp only [outs, Sum.inl.injEq] at h
    subst h
    simp [outs, e]
  | x :: l, acc, h => by
    simp only [outs, List.cons_append] at h ⊢
    cases ex : f x with
    | inr c => rw [ex] at h; cases h
    | inl y =>
      rw [ex] at h
      cases eo : outs f l with
      | inr c => simp [eo] at h
      | inl ds =>
        simp only [eo, Sum.inl.injEq] at h
        subst h
        simp [outs_val e eo]
theorem outs_exc {f : D → D ⊕ Value} {d : D} {c : Value} (e : f d = .inr c) (r : List D) : ∀ {l acc : List D}, outs f l = .inl acc → outs f (l ++ d :: r) = .inr c
  | [], acc, h => by simp [outs, e]
  | x :: l, acc, h => by
    simp only [outs, List.cons_append] at h ⊢
    cases ex : f x with
    | inr c' => rw [ex] at h; cases h
    | inl y =>
      rw [ex] at h
      cases eo : outs f l with
      | inr c' => simp [eo] at h
      | inl ds => simp [outs_exc e r eo]
theorem outs_len {f : D → D ⊕ Value} : ∀ {l acc : List D}, outs f l = .inl acc → acc.length = l.length
  | [], acc, h => by simp only [outs, Sum.inl.injEq] at h; subst h; rfl
  | x :: l, acc, h => by
    simp only [outs] at h
    cases ex : f x with
    | inr c' => rw [ex] at h; cases h
    | inl y =>
      rw [ex] at h
      cases eo : outs f l with
      | inr c' => simp [eo] at h
      | inl ds =>
        simp only [eo, Sum.inl.injEq] at h
        subst h
        simp [outs_len eo]
/-- arguments in all the contexts of a block -/
def tAX (X : Cx) (scope : Scope) (es : List Expr) : TA := fun σ H Q => ∀ sb Hb Cb cl fp pn xe, WA (BlkX X sb Hb scope (compEnvC scope cl Cb X.env) fp pn xe) es σ H Q
section
variable {X : Cx} {b : Bs} {δ : Od} {M : Mp} {Φ : Mp → D → Prop} {Ψ : Xs} {pos cpos p pv : Pos} {x v : Str} {ps : List Str} {j l : Nat} {xs : List D} {scope : Scope} {iter arg : Expr} {P : Mp → List D → D ⊕ Value → Prop}
theorem ew_lcX (own : List (Str × Nat)) (i : Nat) (f : D → D ⊕ Value) (hc : X.calm = true) (hN : X.N.Nodup) (hstk : X.stack = X.env :: X.outer) (hfr : X.env.frame = some X.env.locals) (G : OkF X.prog X.w X.K X.mg X.base x ps j (PureX P)) (hr : Room l X.A) (hj : j ≤ l)
    (hgl : ∀ sb Hb Cb cl fp pn xe, Gl (BlkX X sb Hb scope (compEnvC scope cl Cb X.env) fp pn xe) x) (h : EV X b δ M iter (.lst xs)) (hl : xs.length ≤ 100000)
    (htg : ∀ d s' H' Cc cl fp, GS (Blk X scope s' H' Cc cl fp) (.Name v pv) d [i] [d])
    (hel : ∀ d ∈ xs, ∀ M', Sub M M' → ∀ sb Hb Cb cl fp pn xe, EVs (BlkX X sb Hb scope (compEnvC scope cl Cb X.env) fp pn xe) b (setD (wD δ (own.map (·.2))) [i] [d]) M' [arg] [d])
    (hf : ∀ d ∈ xs, ∀ M', Sub M M' → P M' [d] (f d)) (q1 : ∀ ds, outs f xs = .inl ds → Φ M (.lst ds)) (q2 : ∀ c, outs f xs = .inr c → Ψ c M)
    (ok : BlkOk X.N X.env.scope scope own := by exact blkOk_by (by dsimp only [L2.cxOf, PyProof.Rows.envOfC]; decide +kernel)) (hi : i ∈ own.map (·.2) := by decide) (hs : ∀ x, foldedSetIterable iter X.env x = pure x := by exact fun _ => rfl) (hdb : (x == ("__debug__" : Str)) = false := by decide) (hst : isStar arg = false := by rfl) :
    EW X b δ M (.ListComp (.Call (.Name x p) [arg] [] cpos) [⟨.Name v pv, iter, [], 0⟩] scope pos) Φ Ψ := fun R mR σ H Q SH k kx => by
  obtain ⟨fa, fd, F, gm, kp, bd⟩ := G
  refine we_of (pe_lcX (wi := WI X (.Name v pv) iter) (g := gB X scope (.Name v pv)) (te := fun σ0 => L2.tCallS (spD X.K (PureX P)) (fun _ cls d H' => WXc X cls d σ0 H') (tAX X scope [arg])) hc hN pi_wi ok hstk hfr
    (fun s' H' Cc cl fp => ⟨fun pins s σ H v u Q I r h => (h s' H' Cc cl fp).run pins s u I r⟩)
    (fun σ0 sb Hb Cb cl fp pn xe hx => L2.pe_callS (X := BlkX X sb Hb scope (compEnvC scope cl Cb X.env) fp pn xe) F (hr.mono hj) (hgl sb Hb Cb cl fp pn xe) gm kp bd (fun σb pins H s e s' I c => hx pins σb H s e s' I c)
      ⟨fun pos pins s σ H Q I h => (h sb Hb Cb cl fp pn xe).run pos pins s I⟩ hdb (starEach_c hst) (back_any rfl)) hs) ?_
  refine (iw_lst (h.to ⟨xs, rfl, rfl, rfl, fun _ => trivial⟩) : IW X b δ M (.Name v pv) iter (fun M1 CM ds => M1 = M ∧ ds = xs ∧ ∀ M2, CM M2) Ψ) R mR σ H _ SH (fun M1 CM ds H1 J R1 pp mR1 hR S1 w => ?_) kx
  obtain ⟨rfl, rfl, hCM⟩ := pp
  intro Dl hDl
  obtain ⟨G1, S1', z1⟩ := S1
  obtain ⟨n1, n2, n3⟩ := S1'.new hDl
  obtain ⟨Gd, Y, hw, hG, hY⟩ := w
  refine lc_it (g := gB X scope (.Name v pv)) (tt := tYes) (te := L2.tCallS (spD X.K (PureX P)) (fun _ cls d H' => WXc X cls d σ H') (tAX X scope [arg])) (vs := own.map (·.2)) (σ := σ) (Qd := fun H' => Q (.ref Dl) H') hw
    (fun i H' => ∃ acc, outs f (ds.take i) = .inl acc ∧ SS X.K b (um M1 Dl (.lst acc)) (RE X.K σ δ R1) H') ⟨[], rfl, G1, S1'.cell (c := .lst []) hDl ⟨[], rfl, .nil⟩, z1⟩
    (fun i H' _ ⟨acc, p, S'⟩ => hG _ H' (hCM _) (S'.imp fun G z => z.2)) (fun n x H' H'' hi' ⟨acc, p, S'⟩ y => ?_) (fun H' ⟨acc, p, S'⟩ => ?_)
  · have hd : ds[n]? = some ds[n] := by simp [hi']
    have hmem : ds[n] ∈ ds := List.getElem_mem hi'
    have S2 := hY n ds[n] x _ (fun G => Env X.K G σ δ) H' H'' Mono.env hd (hCM _) S' y
    have split : ds = ds.take n ++ ds[n] :: ds.drop (n + 1) := by rw [← List.drop_eq_getElem_cons hi', List.take_append_drop]
    intro s' Hb Cc cl fp
    obtain ⟨g, pg, hg⟩ := htg ds[n] s' Hb Cc cl fp
    refine wg_of pg ?_
    obtain ⟨G2, S2', y1, y2, y3⟩ := S2
    refine hg x _ H'' G2 _ S2'.gh y3 fun ws rws => ?_
    refine ⟨wipe_set fun j hj => by rw [List.mem_singleton.mp hj]; exact hi, ?_⟩
    have mE : Mono (fun G => Env X.K G σ δ ∧ R1 G) := Mono.env.and mR1
    have S3 : SS X.K b (um M1 Dl (.lst acc)) (RE X.K (setAll (wipe σ (own.map (·.2))) [i] ws) (setD (wD δ (own.map (·.2))) [i] [ds[n]]) (fun G => Env X.K G σ δ ∧ R1 G)) H'' := ⟨G2, S2', Env.setAll (y1.wipe _) rws, y1, y2⟩
    simp only [tYes, if_true]
    intro sb Hb' Cb cl' fp' pn xe
    refine hel _ hmem _ (Sub.um n1) sb Hb' Cb cl' fp' pn xe (fun G => Env X.K G σ δ ∧ R1 G) mE _ H'' _ S3 (fun M3 ds' vs H3 pp S4 => ?_) .nx
    obtain ⟨rfl, rfl⟩ := pp
    have hP := hf _ hmem _ (Sub.um (c := .lst acc) n1)
    cases e : f ds[n] with
    | inl d' =>
      rw [e] at hP
      refine (CallS.val (b := b) (Φ := One (um M1 Dl (.lst acc)) d') (Ψ := NX) hP ⟨rfl, rfl⟩).sp mE S4 (fun M' d vv H4 hΦ S5 => ?_) (fun _ _ _ z => z.elim)
      obtain ⟨rfl, rfl⟩ := hΦ
      obtain ⟨G5, S5, w1, w2, w3⟩ := S5
      obtain ⟨_, ob, ho, us, rfl, rs⟩ := S5.cel Dl _ um_same
      refine ⟨us, ho, ?_, acc ++ [d'], by rw [take_snoc hd]; exact outs_val e p, G5, ?_, w2.1, w2.2⟩
      · have := outs_len p
        rw [List.length_take] at this
        rw [← rs.length]
        exact Nat.lt_of_lt_of_le (show acc.length < 100001 by omega) (by decide)
      · have z := S5.set um_same n2.wr (c' := .lst (acc ++ [d'])) ⟨_, rfl, rs.append (.cons w3 .nil)⟩
        rw [um_um] at z
        exact z
    | inr c =>
      rw [e] at hP
      have ec : outs f ds = .inr c := by rw [split]; exact outs_exc e _ p
      refine (CallS.exc (b := b) (Φ := fun _ _ => False) (Ψ := fun c' M' => c' = c ∧ M' = um M1 Dl (.lst acc)) hP ⟨rfl, rfl⟩).sp mE S4 (fun _ _ _ _ z => z.elim) (fun cls M' H4 hΨ S5 => ?_)
      obtain ⟨rfl, rfl⟩ := hΨ
      obtain ⟨G5, S5, w1, w2⟩ := S5
      exact kx _ M1 H4 (q2 _ ec) ⟨G5, S5.less (Sub.um n1), w2.1, hR _ w2.2⟩
  · rw [List.take_length] at p
    obtain ⟨G, S', z⟩ := S'
    obtain ⟨G', S2, sg, r⟩ := S'.freeze (p := Dl) um_same n2
    rw [dm_um n1] at S2
    exact k M1 _ _ H' (q1 _ p) ⟨G', S2, Mono.env _ _ sg z.1, mR _ _ sg (hR G z.2), r⟩
end
end D4
end

section
set_option maxRecDepth 100000
set_option maxHeartbeats 4000000
/-! D6h: texts. -/
namespace D4
open PySem L2
section
variable {X : Cx} {b : Bs} {δ : Od} {M : Mp} {e o k e1 e2 tg iter elt : Expr} {es ifs : List Expr} {Φ : Mp → D → Prop} {Ψ : Xs} {d d1 d2 : D} {ds xs : List D} {pos p p2 apos cpos tpos : Pos} {a : Addr} {x z : Str} {ys : List Str}
theorem c_str_str : CW X b (.type "str") M [.str z] (One M (.str z)) := cw_of SkE.call_str_str fun R mR vs H G Q S y r k => by
  obtain ⟨v, rfl, h⟩ := reps1 r
  exact ⟨z, by rw [Rep.str_iff.mp h], k _ _ _ H ⟨rfl, rfl⟩ ⟨G, S, y, Rep.str_iff.mpr rfl⟩⟩
theorem c_int_str {n : Int} (h : PySem.intText? z = some n) (hl : z.length ≤ 640) : CW X b (.type "int") M [.str z] (One M (.int n)) := cw_of call_int_str fun R mR vs H G Q S y r k => by
  obtain ⟨v, rfl, h'⟩ := reps1 r
  exact ⟨z, n, by rw [Rep.str_iff.mp h'], h, hl, k _ _ _ H ⟨rfl, rfl⟩ ⟨G, S, y, Rep.int_iff.mpr rfl⟩⟩
theorem ev_join (h1 : EV X b δ M o (.str z)) (h2 : EV X b δ M e d) (hl : LA M d (ys.map D.str)) (hs : (ys.map (·.length)).sum + ys.length * z.length ≤ 16777216) (hst : isStar e = false := by rfl)
    (hbase : attributeBase o "join" X.env (eval o X.env) = eval o X.env := by rfl) (hline : (apos.endLine == pos.line) = true := by rfl) : EV X b δ M (.Call (.Attribute o "join" apos) [e] [] pos) (.str (Txt.join z ys)) := fun R mR σ H Q S kk kx => by
  refine we_of (pe_join pe_we pe_we (starEach_1 hst) hbase hline) ?_
  refine h1 R mR σ H _ S (fun M1 d' v H1 p1 S1 => ?_) .nx
  obtain ⟨rfl, rfl⟩ := p1
  obtain ⟨G, S1, z1, z2, z3⟩ := S1
  have ev := Rep.str_iff.mp z3
  subst ev
  refine ⟨⟨_, rfl⟩, h2 R mR σ H1 _ ⟨G, S1, z1, z2⟩ (fun M2 d' y H2 q2 S2 => ?_) .nx⟩
  obtain ⟨rfl, rfl⟩ := q2
  obtain ⟨G2, S2, y1, y2, y3⟩ := S2
  obtain ⟨q, vs, rfl, ha, rs⟩ := S2.la hl y3
  have e := rs.strs
  subst e
  exact ⟨z, q, ys, rfl, rfl, .inl (SqL.of ha), hs, kk _ _ _ _ ⟨rfl, rfl⟩ ⟨G2, S2, y1, y2, Rep.str_iff.mpr rfl⟩⟩
theorem ev_split {y : Str} (h1 : EV X b δ M o (.str z)) (h2 : EV X b δ M e (.str y)) (hy : (y.length == 0) = false) (hl : z.length + 2 ≤ sizeLine) (hst : isStar e = false := by rfl)
    (hbase : attributeBase o "split" X.env (eval o X.env) = eval o X.env := by rfl) (hline : (apos.endLine == pos.line) = true := by rfl) : EV X b δ M (.Call (.Attribute o "split" apos) [e] [] pos) (.lst ((Txt.split z y).map D.str)) := fun R mR σ H Q S kk kx => by
  refine we_of (pe_split pe_we pe_we (starEach_1 hst) hbase hline) ?_
  refine h1 R mR σ H _ S (fun M1 d' v H1 p1 S1 => ?_) .nx
  obtain ⟨rfl, rfl⟩ := p1
  obtain ⟨G, S1, z1, z2, z3⟩ := S1
  have ev := Rep.str_iff.mp z3
  subst ev
  refine ⟨⟨_, rfl⟩, h2 R mR σ H1 _ ⟨G, S1, z1, z2⟩ (fun M2 d' u H2 q2 S2 => ?_) .nx⟩
  obtain ⟨rfl, rfl⟩ := q2
  obtain ⟨G2, S2, y1, y2, y3⟩ := S2
  refine ⟨z, y, rfl, by rw [Rep.str_iff.mp y3], hy, hl, fun q hq => ?_⟩
  obtain ⟨S3, sg⟩ := S2.frz hq (.lst ((Txt.split z y).map V.str))
  exact kk _ _ _ _ ⟨rfl, rfl⟩ ⟨_, S3, Mono.env _ _ sg y1, mR _ _ sg y2, Rep.lst_iff.mpr ⟨q, _, rfl, upd_same, Reps.of_strs _⟩⟩
theorem ev_sign {i : Int} {c : Nat} (h1 : EV X b δ M o (.str z)) (h2 : EV X b δ M e (.int i)) (h0 : 0 ≤ i) (hl : z.length < 2 ^ 62) (hc : z.cps[i.toNat]? = some c) (hs : PlainIxT e := by exact fun _ _ => rfl) : EV X b δ M (.Subscript o e pos) (.str ⟨#[c]⟩) := fun R mR σ H Q S kk kx => by
  have lt : i.toNat < z.length := by
    have := (Array.getElem?_eq_some_iff.mp hc).1
    exact this
  refine we_of (pe_item_str pe_we pe_we hs) ?_
  refine h1 R mR σ H _ S (fun M1 d' v H1 p1 S1 => ?_) .nx
  obtain ⟨rfl, rfl⟩ := p1
  obtain ⟨G, S1, z1, z2, z3⟩ := S1
  have ev := Rep.str_iff.mp z3
  subst ev
  refine h2 R mR σ H1 _ ⟨G, S1, z1, z2⟩ (fun M2 d' u H2 q2 S2 => ?_) .nx
  obtain ⟨rfl, rfl⟩ := q2
  obtain ⟨G2, S2, y1, y2, y3⟩ := S2
  refine ⟨z, i, c, rfl, Rep.int_iff.mp y3, h0, by omega, by omega, hc, kk _ _ _ _ ⟨rfl, rfl⟩ ⟨G2, S2, y1, y2, Rep.str_iff.mpr rfl⟩⟩
theorem ev_strCut {lo hi : Option Expr} {l h : Option Int} (h1 : EV X b δ M e (.str z)) (h2 : PW' X b δ M lo l) (h3 : PW' X b δ M hi h) (hz : z.length ≤ sizeLine) : EV X b δ M (.Subscript e (.Slice lo hi none p2) pos) (.str (cutS z l h)) := fun R mR σ H Q SH kk kx => by
  refine we_of (pe_slice sl_str pe_we po_wp po_wp) ?_
  refine h1 R mR σ H _ SH (fun M1 d' v H1 p1 S1 => ?_) .nx
  obtain ⟨rfl, rfl⟩ := p1
  obtain ⟨G, S1, z1, z2, z3⟩ := S1
  have ev := Rep.str_iff.mp z3
  subst ev
  refine h2.run mR ⟨G, S1, z1, z2⟩ fun H2 S2 => ?_
  refine h3.run mR S2 fun H3 S3 => ?_
  obtain ⟨G3, S3, y1, y2⟩ := S3
  exact ⟨z, rfl, hz, kk _ _ _ _ ⟨rfl, rfl⟩ ⟨G3, S3, y1, y2, Rep.str_iff.mpr rfl⟩⟩
theorem o_inSg {c : Nat} : OW X b (compareOp .In) M (.str ⟨#[c]⟩) (.str z) (One M (.bl (decide (c ∈ z.cps.toList)))) := ow_of op_in_sign fun R mR x y H G Q S w r1 r2 k =>
  ⟨c, z, Rep.str_iff.mp r1, Rep.str_iff.mp r2, k M _ _ H ⟨rfl, rfl⟩ ⟨G, S, w, Rep.bl_iff.mpr rfl⟩⟩
theorem o_notinSg {c : Nat} : OW X b (compareOp .NotIn) M (.str ⟨#[c]⟩) (.str z) (One M (.bl (!decide (c ∈ z.cps.toList)))) := ow_of op_notIn_sign fun R mR x y H G Q S w r1 r2 k =>
  ⟨c, z, Rep.str_iff.mp r1, Rep.str_iff.mp r2, k M _ _ H ⟨rfl, rfl⟩ ⟨G, S, w, Rep.bl_iff.mpr rfl⟩⟩
theorem o_notinTs : OW X b (compareOp .NotIn) M (.str z) (.tup (ys.map D.str)) (One M (.bl (!decide (z ∈ ys)))) := ow_of op_notIn_seq fun R mR x y H G Q S w r1 r2 k => by
  obtain ⟨a, vs, rfl, ha, rs⟩ := Rep.tup_iff.mp r2
  have e := rs.strs
  subst e
  refine ⟨a, _, rfl, .inr (SqT.of (S.gh _ _ ha)), by rw [Rep.str_iff.mp r1] <;> rfl, flat_strs ys, ?_⟩
  rw [if_pos rfl, Rep.str_iff.mp r1, inV_str]
  exact k _ _ _ H ⟨rfl, rfl⟩ ⟨G, S, w, Rep.bl_iff.mpr rfl⟩
/-- None, or a number -/
def oD : Option Int → D
  | none => .non
  | some n => .int n
def oV : Option Int → V
  | none => .non
  | some n => .int n
theorem reps_oD {K : Fg} {G : Hp} : ∀ {os : List (Option Int)} {vs : List V}, Reps K G (os.map oD) vs → vs = os.map oV
  | [], vs, h => h.nil_inv
  | o :: os, vs, h => by
    obtain ⟨v, r, ev, h1, t⟩ := h.cons_inv
    rw [ev, reps_oD t]
    cases o with
    | none => rw [Rep.non_iff.mp h1]; rfl
    | some n => rw [Rep.int_iff.mp h1]; rfl
theorem flat_oV (os : List (Option Int)) : (os.map oV).all flatV = true := by
  rw [List.all_map]; exact List.all_eq_true.mpr fun o _ => by cases o <;> rfl
theorem inV_non : ∀ os : List (Option Int), inV .non (os.map oV) = os.any Option.isNone
  | [] => rfl
  | o :: os => by
    show (eqV (oV o) .non || inV .non (os.map oV)) = _
    rw [inV_non os, List.any_cons]
    cases o <;> rfl
theorem o_inNone {os : List (Option Int)} (hl : LA M d2 (os.map oD)) : OW X b (compareOp .In) M .non d2 (One M (.bl (os.any Option.isNone))) := ow_of op_in_seq fun R mR x y H G Q S w r1 r2 k => by
  obtain ⟨a, vs, rfl, ha, rs⟩ := S.la hl r2
  have e := reps_oD rs
  subst e
  refine ⟨a, _, rfl, .inl (SqL.of ha), by rw [Rep.non_iff.mp r1] <;> rfl, flat_oV os, ?_⟩
  rw [if_neg Bool.false_ne_true, Rep.non_iff.mp r1, inV_non]
  exact k _ _ _ H ⟨rfl, rfl⟩ ⟨G, S, w, Rep.bl_iff.mpr rfl⟩
/-- {"..": n, "..": m}[e] -/
theorem ev_pick2 {s1 s2 w : Str} {n1 n2 n : Int} {j1 j2 j3 j4 : Nat} {q1 q2 q3 q4 : Pos} (hu : X.A.units + 1 < cLine) (h : EV X b δ M k (.str w)) (hn : s1 ≠ s2) (hw : (w = s1 ∧ n = n1) ∨ (w = s2 ∧ n = n2)) (hs : NoSl k := by exact fun _ _ => rfl) :
    EV X b δ M (.Subscript (.Dict [some (.Constant (.str s1) j1 q1), some (.Constant (.str s2) j2 q2)] [.Constant (.int n1) j3 q3, .Constant (.int n2) j4 q4] p) k pos) (.int n) := fun R mR σ H Q S kk kx => by
  refine we_of (pe_dget hu (pe_disp (pps_cons pe_str pe_int (pps_cons pe_str pe_int pps_nil)) rfl rfl (by simp) (Nat.le_of_ble_eq_true rfl)) pe_we hs) ?_
  intro q hq
  refine ⟨upd_same, [(.inr s1, .int n1), (.inr s2, .int n2)], rfl, Nat.le_of_ble_eq_true rfl, ?_⟩
  have ed : mergeK [] [((.inr s1 : Key), V.int n1), (.inr s2, .int n2)] = [(.inr s1, .int n1), (.inr s2, .int n2)] := by
    simp [mergeK, putK, hn]
  rw [ed, show upd (upd H q (.dK [])) q (.dK [((.inr s1 : Key), V.int n1), (.inr s2, .int n2)]) = upd H q (.dK [(.inr s1, .int n1), (.inr s2, .int n2)]) from by
    funext c; unfold upd; split <;> rfl]
  obtain ⟨G, S, z1, z2⟩ := S
  obtain ⟨S2, sg⟩ := S.frz hq (.dK [((.inr s1 : Key), V.int n1), (.inr s2, .int n2)])
  refine h (fun G => R G ∧ G q = some (.dK [((.inr s1 : Key), V.int n1), (.inr s2, .int n2)])) (mR.and fun G G' e h => e _ _ h) σ _ _ ⟨_, S2, Mono.env _ _ sg z1, mR _ _ sg z2, upd_same⟩ (fun M1 d' v H1 p1 S1 => ?_) .nx
  obtain ⟨rfl, rfl⟩ := p1
  obtain ⟨G1, S1, y1, y2, y3⟩ := S1
  refine ⟨q, .int n, rfl, .inl ⟨_, .inr w, .inl (S1.gh _ _ y2.2), Rep.str_iff.mp y3, ?_⟩, kk _ _ _ _ ⟨rfl, rfl⟩ ⟨G1, S1, y1, y2.1, Rep.int_iff.mpr rfl⟩⟩
  rcases hw with ⟨e1, e2⟩ | ⟨e1, e2⟩
  · rw [e1, e2]
    have v1 : valV [((.inr s1 : Key), V.int n1), (.inr s2, .int n2)] (.inr s1) = some (.int n1) := valV_pos rfl
    exact v1.symm
  · rw [e1, e2]
    have ne : ¬ (.inr s1 : Key) = .inr s2 := fun z => hn (Sum.inr.inj z)
    have v2 : valV [((.inr s1 : Key), V.int n1), (.inr s2, .int n2)] (.inr s2) = some (.int n2) := (valV_neg (p := ((.inr s1 : Key), V.int n1)) ne).trans (valV_pos rfl)
    exact v2.symm
/-- a comprehension over a text -/
theorem ev_lcStr {scope : Scope} (own : List (Str × Nat)) (js : List Nat) (t : Nat → Bool) (f : Nat → D) (g : Nat → List D) (hc : X.calm = true) (hN : X.N.Nodup) (h : EV X b δ M iter (.str z)) (hl : z.length ≤ 100000) (htg : ∀ c ∈ z.cps.toList, ∀ s' H' Cc cl fp, GS (Blk X scope s' H' Cc cl fp) tg (.str ⟨#[c]⟩) js (g c))
    (hturn : ∀ c ∈ z.cps.toList, ∀ M2, Sub M M2 → TurnP X scope b (setD (wD δ (own.map (·.2))) js (g c)) M2 ifs elt (t c) (f c)) (ok : BlkOk X.N X.env.scope scope own := by exact blkOk_by (by dsimp only [L2.cxOf, PyProof.Rows.envOfC]; decide +kernel)) (hif : ifs.length ≤ 1 := by decide) (hjs : ∀ j ∈ js, j ∈ own.map (·.2) := by decide) (hs : ∀ x, foldedSetIterable iter X.env x = pure x := by exact fun _ => rfl) :
    EV X b δ M (.ListComp elt [⟨tg, iter, ifs, 0⟩] scope pos) (.lst ((z.cps.toList.filter t).map f)) :=
  ew_lc hc hN ok (iw_str h ⟨rfl, by rw [Array.length_toList]; exact hl, fun _ _ => trivial, htg, hturn, rfl, rfl⟩) hif hjs hs
end
end D4
end

section
set_option maxRecDepth 100000
set_option maxHeartbeats 4000000
/-! D6l: isinstance(error, (C1, C2, ..)) in an except suite. -/
namespace D4
open PySem L2
theorem reps_locs {K : Fg} {G : Hp} : ∀ {cs : List Addr} {vs : List V}, Reps K G (cs.map fun c => D.loc (.ref c)) vs → vs = cs.map V.ref
  | [], vs, h => h.nil_inv
  | c :: cs, vs, h => by
    obtain ⟨v, r, ev, h1, t⟩ := h.cons_inv
    rw [ev, Rep.loc_iff.mp h1, reps_locs t]; rfl
theorem clsV_refs : ∀ cs : List Addr, Paired ClsV (cs.map V.ref) (cs.map Value.ref)
  | [] => .nil
  | c :: cs => .cons (.own c) (clsV_refs cs)
theorem c_isET {X : Cx} {b : Bs} {M : Mp} {a Dc : Addr} {oe : Obj} {q : List (Addr × Obj)} {bb : Bool} {cs : List Addr} (XC : ExcC X.K Dc) (hz : Zc (.ref Dc) none oe) (hf : ∃ vs, oe.data = .fields vs) (hk : PySem.W.kitAny X.K (.ref Dc) (cs.map Value.ref) = some bb) :
    CW (X.suite a ((a, oe) :: q)) b (.builtin "isinstance") M [.loc (.ref a), .tup (cs.map fun c => .loc (.ref c))] (One M (.bl bb)) := fun R mR xs H1 Q S k => by
  refine ⟨fun pins s1 σ us I rx => ?_⟩
  obtain ⟨G, S, z1, z2⟩ := S
  obtain ⟨v1, r, e, r1, r2⟩ := z2.cons_inv
  obtain ⟨v2, r3, e2, r4, r5⟩ := r2.cons_inv
  subst e e2
  obtain ⟨tp, ws, ev, hT, rs⟩ := Rep.tup_iff.mp r4
  have ew := reps_locs rs
  subst ew ev
  rw [r5.nil_inv, Rep.loc_iff.mp r1] at rx
  rcases rx with _ | ⟨a1, rx⟩
  rcases rx with _ | ⟨a2, rx⟩
  cases rx
  cases a1
  cases a2
  have hg := (I.pin (a, oe) (List.mem_append.mpr (.inl List.mem_cons_self))).1
  have J : PySem.W.InstAt s1.heap a oe Dc none := by
    obtain ⟨h1, h2⟩ := hz
    obtain ⟨vs, h3⟩ := hf
    obtain ⟨oc, od, oda, osl⟩ := oe
    dsimp only at h1 h2 h3 hg
    subst h1 h2 h3
    exact ⟨hg, rfl, rfl, trivial⟩
  obtain ⟨_, its, rv, o, h1, h2, n, h3⟩ := (show ObjOk X.prog X.w H1 s1.heap tp (.tup (cs.map V.ref)) from I.hok tp _ (S.gh _ _ hT))
  have e3 := ClsV.all (clsV_refs cs) rv
  subst e3
  obtain ⟨oc, od, dt, sl⟩ := o
  simp only at h2 h3
  subst h2 h3
  exact PySem.W.kia_tup (PySem.W.handS_kitx_exc XC.hg XC.hk XC.hs XC.hd XC.ha XC.hn XC.ht XC.hm) I.kIn J h1 hk (fun z => nomatch z) fun tk => ⟨.bl bb, H1, I.kept (t' := tk) fun _ _ z => z, rfl, k M _ _ H1 ⟨rfl, rfl⟩ ⟨G, S, z1, Rep.bl_iff.mpr rfl⟩⟩
end D4
end

section
set_option maxRecDepth 100000
set_option maxHeartbeats 4000000
/-! M12: deeds as texts. -/
namespace D4
open PySem L2
def digs : Str := "0123456789"
def spc : Str := " "
theorem digs_list : digs.cps.toList = [48, 49, 50, 51, 52, 53, 54, 55, 56, 57] := by decide +kernel
theorem mem_digs {c : Nat} : c ∈ digs.cps.toList ↔ 48 ≤ c ∧ c ≤ 57 := by
  rw [digs_list]
  simp only [List.mem_cons, List.not_mem_nil, or_false]
  omega
/-- a word that writes a number -/
def numOk (w : Str) : Bool := !decide (w = ("" : Str)) && !(decide (w.cps[0]? = some 48) && !decide (w = ("0" : Str))) && decide (w.length ≤ 30) && (w.cps.toList.all fun c => decide (c ∈ digs.cps.toList))
def valW (w : Str) : Int := (NumText.digitsVal (TL.tl w) : Nat)
theorem empty_iff {w : Str} : w = ("" : Str) ↔ TL.tl w = [] := by
  constructor
  · rintro rfl; rfl
  · intro h; exact TL.ext_tl (h.trans rfl)
theorem numOk_iff {w : Str} : numOk w = true ↔ w ≠ ("" : Str) ∧ (w.cps[0]? = some 48 → w = ("0" : Str)) ∧ w.length ≤ 30 ∧ ∀ c ∈ TL.tl w, 48 ≤ c ∧ c ≤ 57 := by
  unfold numOk
  simp only [Bool.and_eq_true, Bool.not_eq_true', decide_eq_true_eq, decide_eq_false_iff_not, Bool.and_eq_false_iff, Bool.not_eq_false', List.all_eq_true, mem_digs, ne_eq, and_assoc]
  constructor
  · rintro ⟨h1, h2, h3, h4⟩
    refine ⟨h1, fun e => ?_, h3, h4⟩
    rcases h2 with h2 | h2
    · exact absurd e h2
    · exact h2
  · rintro ⟨h1, h2, h3, h4⟩
    refine ⟨h1, ?_, h3, h4⟩
    by_cases e : w.cps[0]? = some 48
    · exact .inr (h2 e)
    · exact .inl e
theorem intText_ok {w : Str} (h : numOk w = true) : PySem.intText? w = some (valW w) := by
  obtain ⟨h1, _, h3, h4⟩ := numOk_iff.mp h
  exact intText_digits (fun c hc => h4 c hc) (fun e => h1 (empty_iff.mpr e)) (by omega)
/-- the deed that a text writes -/
def readO (z : Str) : Option (Str × List Int) := match Txt.split z spc with
  | [] => none
  | w :: ws => if ((w = ("come" : Str) ∧ ws.length = 2) ∨ (w = ("go" : Str) ∧ ws.length = 1)) ∧ ws.all numOk = true then some (w, ws.map valW) else none
def encO (r : Str × List Int) : D := .tup (.str r.1 :: r.2.map D.int)
def numR (ln : Addr) (w : Str) : D ⊕ Value := if numOk w = true then .inl (.int (valW w)) else .inr (.ref ln)
def numDS (ln : Addr) : D → D ⊕ Value
  | .str w => numR ln w
  | _ => .inr (.ref ln)
def deedR (ln : Addr) : D → D ⊕ Value
  | .str z => match readO z with
    | some r => .inl (encO r)
    | none => .inr (.ref ln)
  | _ => .inr (.ref ln)
theorem outs_nums (ln : Addr) : ∀ ws : List Str, outs (numDS ln) (ws.map D.str) = if ws.all numOk = true then .inl ((ws.map valW).map D.int) else .inr (.ref ln)
  | [] => rfl
  | w :: ws => by
    simp only [List.map_cons, outs, numDS, numR, List.all_cons]
    rw [outs_nums ln ws]
    cases numOk w <;> cases ws.all numOk <;> simp
/-! ### there and back -/
def numS (n : Int) : Str := Str.ofString (toString n)
theorem tl_numS {n : Int} (h : 0 ≤ n) : TL.tl (numS n) = TL.numL n.toNat := by
  obtain ⟨m, rfl⟩ := Int.eq_ofNat_of_zero_le h
  exact TL.tl_num m
theorem numL_head : ∀ n : Nat, 0 < n → ∃ c l, TL.numL n = c :: l ∧ c ≠ 48 := by
  intro n
  induction n using Nat.strongRecOn with
  | _ n ih =>
    intro hn
    by_cases h : n < 10
    · exact ⟨48 + n, [], TL.numL_lt h, by omega⟩
    · obtain ⟨c, l, e, hc⟩ := ih (n / 10) (by omega) (by omega)
      exact ⟨c, l ++ [48 + n % 10], by rw [TL.numL_step (by omega), e]; rfl, hc⟩
theorem head_tl {w : Str} : w.cps[0]? = (TL.tl w)[0]? := by
  rw [← Array.getElem?_toList]
theorem len_numS {n : Int} (h : 0 ≤ n) (h1 : n < 10 ^ 30) : (numS n).length ≤ 30 := by
  rw [TL.len_tl, tl_numS h]
  refine TL.numL_len (by decide) ?_
  have e : ((10 : Int) ^ 30) = ((10 ^ 30 : Nat) : Int) := by decide
  rw [e] at h1
  omega
theorem numS_ok {n : Int} (h : 0 ≤ n) (h1 : n < 10 ^ 30) : numOk (numS n) = true := by
  refine numOk_iff.mpr ⟨fun e => ?_, fun e => ?_, len_numS h h1, ?_⟩
  · have := empty_iff.mp e
    rw [tl_numS h] at this
    exact TL.numL_ne _ this
  · rw [head_tl, tl_numS h] at e
    by_cases h0 : 0 < n.toNat
    · obtain ⟨c, l, e2, hc⟩ := numL_head n.toNat h0
      rw [e2] at e
      exact absurd (Option.some.inj e) hc
    · have e0 : n.toNat = 0 := by omega
      refine TL.ext_tl ?_
      rw [tl_numS h, e0]
      decide +kernel
  · rw [tl_numS h]
    exact TL.numL_digits _
theorem valW_numS {n : Int} (h : 0 ≤ n) : valW (numS n) = n := by
  unfold valW
  rw [tl_numS h, TL.numL_val]
  omega
theorem free_numS {n : Int} (h : 0 ≤ n) : 32 ∉ TL.tl (numS n) := by
  rw [tl_numS h]
  exact TL.numL_free (.inl (by decide))
def DeedOk (c : Str) (ns : List Int) : Prop := ((c = ("come" : Str) ∧ ns.length = 2) ∨ (c = ("go" : Str) ∧ ns.length = 1)) ∧ ∀ n ∈ ns, 0 ≤ n ∧ n < 10 ^ 30
def deedTx (c : Str) (ns : List Int) : Str := Txt.join spc (c :: ns.map numS)
theorem read_deed {c : Str} {ns : List Int} (h : DeedOk c ns) : readO (deedTx c ns) = some (c, ns) := by
  obtain ⟨h1, h2⟩ := h
  have es : Txt.split (deedTx c ns) spc = c :: ns.map numS := by
    refine TL.split_join (s := 32) (S := []) (by decide +kernel) (by decide +kernel) (by simp) fun p hp => ?_
    rcases List.mem_cons.mp hp with e | hp
    · rw [e]
      rcases h1 with ⟨e, _⟩ | ⟨e, _⟩ <;> (rw [e]; decide +kernel)
    · obtain ⟨n, hn, rfl⟩ := List.mem_map.mp hp
      exact free_numS (h2 n hn).1
  unfold readO
  rw [es]
  have ev : (ns.map numS).map valW = ns := by
    rw [List.map_map]
    refine (List.map_congr_left fun n hn => ?_).trans (List.map_id _)
    exact valW_numS (h2 n hn).1
  have eo : (ns.map numS).all numOk = true := by
    rw [List.all_map]
    exact List.all_eq_true.mpr fun n hn => numS_ok (h2 n hn).1 (h2 n hn).2
  simp only [List.length_map]
  rw [if_pos ⟨h1, eo⟩, ev]
theorem join_step (y x z : Str) : ∀ r : List Str, Txt.join y ((x ++ y ++ z) :: r) = Txt.join y (x :: z :: r) := by
  intro r
  rw [TL.join_eq, TL.join_eq]
  refine TL.ext_tl ?_
  rw [TL.tl_join, TL.tl_join]
  cases r with
  | nil => simp only [List.map_cons, List.map_nil, TL.joinL, TL.tl_append, List.append_assoc]
  | cons q r => simp only [List.map_cons, TL.joinL, TL.tl_append, List.append_assoc]
theorem join_one (y x : Str) : Txt.join y [x] = x := by rw [TL.join_eq]; rfl
/-- put together one by one -/
theorem cat_join : ∀ (ns : List Int) (c : Str), ns.foldl (fun t n => t ++ spc ++ numS n) c = Txt.join spc (c :: ns.map numS)
  | [], c => (join_one spc c).symm
  | n :: ns, c => by
    rw [List.foldl_cons, cat_join ns, List.map_cons, join_step]
theorem len_append (x y : Str) : (x ++ y).length = x.length + y.length := by
  rw [TL.len_tl, TL.tl_append, List.length_append, ← TL.len_tl, ← TL.len_tl]
theorem len_cat : ∀ (ns : List Int) (c : Str), (∀ n ∈ ns, 0 ≤ n ∧ n < 10 ^ 30) → (ns.foldl (fun t n => t ++ spc ++ numS n) c).length ≤ c.length + 31 * ns.length
  | [], c, _ => by simp
  | n :: ns, c, h => by
    rw [List.foldl_cons]
    have h1 := len_cat ns (c ++ spc ++ numS n) fun m hm => h m (List.mem_cons_of_mem _ hm)
    have h2 := len_numS (h n List.mem_cons_self).1 (h n List.mem_cons_self).2
    rw [len_append, len_append, show spc.length = 1 from by decide +kernel] at h1
    rw [List.length_cons]
    omega
theorem len_deedTx {c : Str} {ns : List Int} (h : DeedOk c ns) : (deedTx c ns).length ≤ 66 := by
  have h1 := len_cat ns c h.2
  rw [cat_join] at h1
  have h2 : c.length ≤ 4 ∧ ns.length ≤ 2 := by
    rcases h.1 with ⟨e, e2⟩ | ⟨e, e2⟩
    · rw [e]; exact ⟨by decide +kernel, by omega⟩
    · rw [e]; exact ⟨by decide +kernel, by omega⟩
  unfold deedTx
  omega
end D4
end

section
set_option maxRecDepth 100000
set_option maxHeartbeats 4000000
/-! D6m: a for over a text; the words of a text. -/
namespace D4
open PySem L2
section
variable {X : Cx} {b : Bs} {δ : Od} {M : Mp} {tg iter : Expr} {pos : Pos} {z : Str}
theorem sw_forS {E : DE} {body : List Stmt} (I : Nat → Mp → Od → Prop) (hp : PassesOwn (model X.prog X.w) X.A X.env X.xe) (hc : X.calm = true) (h : EV X b δ M iter (.str z)) (h0 : I 0 M δ)
    (hst : ∀ i c M' δ', (TL.tl z)[i]? = some c → I i M' δ' → GW X b δ' M' tg (.str ⟨#[c]⟩) fun M2 δ2 => SWs X b δ2 M2 body { E with nx := I (i + 1), ct := I (i + 1), bk := E.nx }) (hE : ∀ M' δ', I (TL.tl z).length M' δ' → E.nx M' δ') (hs : ∀ x, foldedSetIterable iter X.env x = pure x := by exact fun _ => rfl) : SW X b δ M (.For tg iter body [] pos) E :=
  sw_for hp hc (iw_str h ⟨I, h0, fun _ _ _ _ => trivial, fun i d M' δ' hi hI => by
    unfold signD at hi
    rw [List.getElem?_map] at hi
    cases e : z.cps.toList[i]? with
    | none => rw [e] at hi; cases hi
    | some c =>
      rw [e] at hi
      cases hi
      exact hst i c M' δ' e hI, fun M' δ' hI => hE M' δ' (by unfold signD at hI; rw [List.length_map] at hI; exact hI)⟩) hs
end
theorem sg_eq {c k : Nat} : ((⟨#[c]⟩ : Str) = ⟨#[k]⟩) ↔ c = k := by
  constructor
  · intro h
    have := congrArg TL.tl h
    simpa [TL.tl] using this
  · rintro rfl; rfl
theorem sg_zero {c : Nat} : ((⟨#[c]⟩ : Str) = ("0" : Str)) ↔ c = 48 := by
  rw [show ("0" : Str) = ⟨#[48]⟩ from by decide +kernel]
  exact sg_eq
theorem first_sign {z : Str} (h : ¬ z = ("" : Str)) : ∃ c l, TL.tl z = c :: l ∧ z.cps[0]? = some c := by
  cases e : TL.tl z with
  | nil => exact absurd (empty_iff.mpr e) h
  | cons c l => exact ⟨c, l, rfl, by rw [head_tl, e]; rfl⟩
theorem spl_ne (S : List Nat) : ∀ (l acc : List Nat) (k : Nat), TL.spl S k acc l ≠ []
  | [], acc, k => by rw [TL.spl_nil]; simp
  | c :: r, acc, 0 => by
    cases h : TL.pre S (c :: r) with
    | true => rw [TL.spl_hit h]; simp
    | false => rw [TL.spl_miss h]; exact spl_ne S r _ 0
  | c :: r, acc, k + 1 => spl_ne S r acc k
theorem spl_len (S : List Nat) : ∀ (l acc : List Nat) (k : Nat), ∀ p ∈ TL.spl S k acc l, p.length ≤ acc.length + l.length
  | [], acc, k, p, hp => by
    rw [TL.spl_nil] at hp
    rw [List.mem_singleton.mp hp]; simp
  | c :: r, acc, 0, p, hp => by
    cases h : TL.pre S (c :: r) with
    | true =>
      rw [TL.spl_hit h] at hp
      rcases List.mem_cons.mp hp with e | hp
      · rw [e]; simp
      · have := spl_len S r [] _ p hp
        simp only [List.length_nil, List.length_cons] at this ⊢
        omega
    | false =>
      rw [TL.spl_miss h] at hp
      have := spl_len S r _ 0 p hp
      simp only [List.length_append, List.length_cons, List.length_nil] at this ⊢
      omega
  | c :: r, acc, k + 1, p, hp => by
    have := spl_len S r acc k p hp
    simp only [List.length_cons]
    omega
theorem spc_tl : TL.tl spc = [32] := by decide +kernel
theorem split_tl (z : Str) : (Txt.split z spc).map TL.tl = TL.spl [32] 0 [] (TL.tl z) := by
  have := TL.split_spl z spc (by rw [spc_tl]; simp) (TL.kind_ok (by decide +kernel))
  rw [spc_tl] at this
  exact this
theorem split_ne (z : Str) : ∃ w ws, Txt.split z spc = w :: ws := by
  cases e : Txt.split z spc with
  | nil =>
    have := split_tl z
    rw [e] at this
    exact absurd this.symm (spl_ne _ _ _ _)
  | cons w ws => exact ⟨w, ws, rfl⟩
theorem split_len {z p : Str} (h : p ∈ Txt.split z spc) : p.length ≤ z.length := by
  have := spl_len [32] (TL.tl z) [] 0 (TL.tl p) (by rw [← split_tl]; exact List.mem_map.mpr ⟨p, h, rfl⟩)
  rw [TL.len_tl, TL.len_tl]
  simpa using this
theorem not_text {M : Mp} {l : D} {t : String} (ln : Addr) (h : TyD M l t) : (∃ z, l = .str z) ∨ (kitB t "str" = some false ∧ deedR ln l = .inr (.ref ln)) := by
  cases h with
  | str => exact .inl ⟨_, rfl⟩
  | non => exact .inr ⟨by decide +kernel, rfl⟩
  | bl => exact .inr ⟨by decide +kernel, rfl⟩
  | int => exact .inr ⟨by decide +kernel, rfl⟩
  | lst => exact .inr ⟨by decide +kernel, rfl⟩
  | tup => exact .inr ⟨by decide +kernel, rfl⟩
  | cl => exact .inr ⟨by decide +kernel, rfl⟩
  | cd => exact .inr ⟨by decide +kernel, rfl⟩
end D4
end

section
set_option maxRecDepth 100000
set_option maxHeartbeats 4000000
/-! M13: plain texts; what the law says of a text. -/
namespace D4
open PySem L2
/-- seven bits a sign -/
def Plain (z : Str) : Prop := ∀ c ∈ TL.tl z, c < 128
theorem Plain.app {x y : Str} (h : Plain x) (h' : Plain y) : Plain (x ++ y) := fun c hc => by
  rw [TL.tl_append] at hc
  rcases List.mem_append.mp hc with hc | hc
  · exact h c hc
  · exact h' c hc
theorem Plain.of {z : Str} (h : (TL.tl z).all (fun c => decide (c < 128)) = true) : Plain z := fun c hc => by
  have := List.all_eq_true.mp h c hc
  simpa using this
theorem cutS_mem {z : Str} {lo hi : Option Int} {c : Nat} (h : c ∈ TL.tl (cutS z lo hi)) : c ∈ TL.tl z := by
  unfold cutS at h
  exact List.mem_of_mem_drop (List.mem_of_mem_take h)
theorem Plain.cut {z : Str} (h : Plain z) (lo hi : Option Int) : Plain (cutS z lo hi) := fun c hc => h c (cutS_mem hc)
theorem Plain.sg {z : Str} {c i : Nat} (h : Plain z) (hc : z.cps[i]? = some c) : Plain ⟨#[c]⟩ := fun d hd => by
  have e : d = c := by simpa [TL.tl] using hd
  rw [e]
  exact h c (by unfold TL.tl; rw [← Array.getElem?_toList] at hc; exact List.mem_of_getElem? hc)
theorem len_sg {c : Nat} : (⟨#[c]⟩ : Str).length = 1 := rfl
theorem spl_mem (S : List Nat) : ∀ (l acc : List Nat) (k : Nat), ∀ p ∈ TL.spl S k acc l, ∀ c ∈ p, c ∈ acc ∨ c ∈ l
  | [], acc, k, p, hp, c, hc => by
    rw [TL.spl_nil] at hp
    rw [List.mem_singleton.mp hp] at hc
    exact .inl hc
  | d :: r, acc, 0, p, hp, c, hc => by
    cases h : TL.pre S (d :: r) with
    | true =>
      rw [TL.spl_hit h] at hp
      rcases List.mem_cons.mp hp with e | hp
      · rw [e] at hc; exact .inl hc
      · rcases spl_mem S r [] _ p hp c hc with z | z
        · cases z
        · exact .inr (List.mem_cons_of_mem _ z)
    | false =>
      rw [TL.spl_miss h] at hp
      rcases spl_mem S r _ 0 p hp c hc with z | z
      · rcases List.mem_append.mp z with z | z
        · exact .inl z
        · rw [List.mem_singleton.mp z]; exact .inr List.mem_cons_self
      · exact .inr (List.mem_cons_of_mem _ z)
  | d :: r, acc, k + 1, p, hp, c, hc => by
    rcases spl_mem S r acc k p hp c hc with z | z
    · exact .inl z
    · exact .inr (List.mem_cons_of_mem _ z)
theorem Plain.split {z p : Str} (h : Plain z) (hp : p ∈ Txt.split z spc) : Plain p := fun c hc => by
  rcases spl_mem [32] (TL.tl z) [] 0 (TL.tl p) (by rw [← split_tl]; exact List.mem_map.mpr ⟨p, hp, rfl⟩) c hc with e | e
  · cases e
  · exact h c e
theorem Plain.ok {z : Str} (h : Plain z) : PyData.strOk z = true := by
  unfold PyData.strOk
  rw [← Array.all_toList, List.all_eq_true]
  intro c hc
  have := h c hc
  exact decide_eq_true (by omega)
theorem plain_numS {n : Int} (h : 0 ≤ n) : Plain (numS n) := fun c hc => by
  rw [tl_numS h] at hc
  have := TL.numL_digits _ c hc
  omega
theorem plain_cat : ∀ (ns : List Int) (c : Str), Plain c → (∀ n ∈ ns, 0 ≤ n) → Plain (ns.foldl (fun t n => t ++ spc ++ numS n) c)
  | [], c, h, _ => h
  | n :: ns, c, h, h' => plain_cat ns _ ((h.app (.of (by decide +kernel))).app (plain_numS (h' n List.mem_cons_self))) fun m hm => h' m (List.mem_cons_of_mem _ hm)
theorem plain_deedTx {c : Str} {ns : List Int} (h : DeedOk c ns) : Plain (deedTx c ns) := by
  unfold deedTx
  rw [← cat_join]
  refine plain_cat ns c ?_ fun n hn => (h.2 n hn).1
  rcases h.1 with ⟨e, _⟩ | ⟨e, _⟩ <;> (rw [e]; exact .of (by decide +kernel))
/-! what the law says -/
def numO (z : Str) : Option Int := if numOk z = true then some (valW z) else none
def dueD (z : Str) : D := match readO z with
  | some r => encO r
  | none => .non
def badL : D := .lst [.bl false, .bl true, .bl true]
def readD : D → D
  | .str z => match readO z with
    | some r => encO r
    | none => badL
  | _ => badL
theorem readD_of (ln : Addr) (x : D) : readD x = match deedR ln x with
    | .inl d => d
    | .inr _ => badL := by
  unfold readD deedR
  cases x with
  | str z => cases e : readO z <;> simp only [e]
  | _ => rfl
theorem deedR_exc {ln : Addr} {x : D} {c : Value} (h : deedR ln x = .inr c) : c = .ref ln := by
  unfold deedR at h
  cases x with
  | str z =>
    simp only at h
    cases e : readO z with
    | none => rw [e] at h; cases h; rfl
    | some r => rw [e] at h; cases h
  | _ => cases h; rfl
theorem readO_shape {z : Str} {r : Str × List Int} (h : readO z = some r) : (r.1 = ("come" : Str) ∧ r.2.length = 2) ∨ (r.1 = ("go" : Str) ∧ r.2.length = 1) := by
  unfold readO at h
  cases es : Txt.split z spc with
  | nil => rw [es] at h; cases h
  | cons w ws =>
    rw [es] at h
    simp only at h
    split at h
    · rename_i hh
      cases h
      simp only [List.length_map]
      exact hh.1
    · cases h
theorem okDs_ints : ∀ ns : List Int, okDs (ns.map D.int) = true
  | [] => rfl
  | n :: ns => by simp only [List.map_cons, okDs, okD, okDs_ints ns, Bool.and_self]
theorem depDs_ints : ∀ ns : List Int, depDs (ns.map D.int) = 0
  | [] => rfl
  | n :: ns => by simp only [List.map_cons, depDs, depD, depDs_ints ns, Nat.max_self]
theorem okd_encO {r : Str × List Int} (h : (r.1 = ("come" : Str) ∧ r.2.length = 2) ∨ (r.1 = ("go" : Str) ∧ r.2.length = 1)) : Okd (encO r) := by
  have hp : PyData.strOk r.1 = true := by
    rcases h with ⟨e, _⟩ | ⟨e, _⟩ <;> (rw [e]; decide +kernel)
  unfold encO
  refine ⟨?_, ?_⟩
  · simp only [okD, okDs, hp, okDs_ints, Bool.and_self]
  · simp only [depD, depDs, depDs_ints]
    decide
theorem okd_badL : Okd badL := ⟨rfl, by decide⟩
/-- a deed's D -/
theorem encO_deed (c : Str) (ns : List Int) : encO (c, ns) = .tup (.str c :: ns.map D.int) := rfl
theorem okd_sgs (l : List Nat) (h : ∀ c ∈ l, c < 128) : Okd (.lst (l.map fun c => D.str ⟨#[c]⟩)) := by
  refine ⟨?_, ?_⟩
  · simp only [okD]
    rw [okDs_iff]
    intro d hd
    obtain ⟨c, hc, rfl⟩ := List.mem_map.mp hd
    simp only [okD]
    exact Plain.ok fun k hk => by
      have e : k = c := by simpa [TL.tl] using hk
      rw [e]; exact h c hc
  · simp only [depD]
    have : depDs (l.map fun c => D.str ⟨#[c]⟩) ≤ 0 := depDs_le _ fun d hd => by
      obtain ⟨c, hc, rfl⟩ := List.mem_map.mp hd
      exact Nat.le_refl _
    omega
theorem nums_or {ws : List Str} : (ws.map numO).any Option.isNone = !ws.all numOk := by
  induction ws with
  | nil => rfl
  | cons w ws ih =>
    rw [List.map_cons, List.any_cons, ih, List.all_cons]
    unfold numO
    cases numOk w <;> simp
theorem nums_all {ws : List Str} (h : ws.all numOk = true) : (ws.map numO).map oD = (ws.map valW).map D.int := by
  rw [List.map_map, List.map_map]
  refine List.map_congr_left fun w hw => ?_
  have := List.all_eq_true.mp h w hw
  show oD (numO w) = .int (valW w)
  unfold numO
  rw [if_pos this]; rfl
end D4
end

section
set_option maxRecDepth 100000
set_option maxHeartbeats 4000000
/-! M14: what is told of a line. -/
namespace Ph
open PySem L2 D4
def NumB (n : Int) : Prop := 0 ≤ n ∧ n < 10 ^ 30
theorem small_num {n : Int} (h : 0 ≤ n) (h1 : n ≤ 100000) : NumB n := ⟨h, by
  have : (100000 : Int) < 10 ^ 30 := by decide
  omega⟩
/-- told of a pair, as a list of numbers -/
def tellL (p : Int × Gv) : List Int := match p.2.other with
  | none => [p.1, p.2.hue]
  | some o => [p.1, p.2.hue, o] ++ p.2.ns
def tellT (p : Int × Gv) : Str := Txt.join spc ((tellL p).map numS)
structure GvB (p : Int × Gv) : Prop where
  n : NumB p.1
  h : NumB p.2.hue
  o : ∀ o, p.2.other = some o → NumB o
  ns : ∀ m ∈ p.2.ns, NumB m
  nil : p.2.other = none → p.2.ns = []
  len : p.2.ns.length ≤ 40
theorem gvb_of {rs : Rows} {l r : Int} {many : Nat} {g : Gv} {n : Int} (G : GvG rs l r many g) (hm : many ≤ 1000) (hk : ∀ m ∈ keys rs, 0 ≤ m ∧ m ≤ 1000) (hl : rs.length ≤ 40) (h0 : 0 ≤ n) (h1 : n ≤ 1000) : GvB (n, g) := by
  have a := G.hue0
  have b := G.hue1
  refine ⟨small_num h0 (by show n ≤ 100000; omega), small_num a (by show g.hue ≤ 100000; omega), fun o e => ?_, fun m hm' => ?_, fun e => ?_, ?_⟩
  · rcases G.turned with ⟨q, _⟩ | ⟨o', q, q1, q2, _⟩
    · rw [show g.other = none from q] at e; cases e
    · have e : g.other = some o := e
      rw [q] at e
      cases e
      exact small_num q1 (by omega)
  · have hm' : m ∈ g.ns := hm'
    rcases G.turned with ⟨_, q, _⟩ | ⟨_, _, _, _, _, _, q⟩
    · rw [q] at hm'; cases hm'
    · obtain ⟨x, hx, e, _⟩ := q m hm'
      have := hk m (by rw [← e]; exact List.mem_map.mpr ⟨x, hx, rfl⟩)
      exact small_num this.1 (by omega)
  · have e : g.other = none := e
    rcases G.turned with ⟨_, q, _⟩ | ⟨o, q, _⟩
    · exact q
    · rw [e] at q; cases q
  · show g.ns.length ≤ 40
    rcases G.turned with ⟨_, q, _⟩ | ⟨_, _, _, _, _, nd, q⟩
    · rw [q]; exact Nat.zero_le _
    · have := D4.nodup_len nd (m := keys rs) fun m hm => by
        obtain ⟨x, hx, e, _⟩ := q m hm
        rw [← e]; exact List.mem_map.mpr ⟨x, hx, rfl⟩
      rw [keys_len] at this
      omega
theorem gvb_come {rs : Rows} {came : Int} (I : Inv rs came) (hc : came ≤ 1000) (l r : Int) : GvB (came, comeG rs l r) := by
  have h := many_le rs l r
  have hl := I.len
  exact gvb_of (given_gen I.proper I.nd (many_l rs l r) (many_r rs l r)) (by omega) (fun m hm => ⟨(I.below m hm).1, by have := (I.below m hm).2; omega⟩) hl I.c0 hc
theorem gvb_go {rs : Rows} {came n : Int} (I : Inv rs came) (hc : came ≤ 1000) : ∀ p ∈ goT rs n, GvB p := by
  intro p hp
  obtain ⟨i, hi, h⟩ := List.mem_iff_getElem.mp hp
  have h : (goT rs n)[i]? = some p := by rw [List.getElem?_eq_getElem hi, h]
  have hl : (goT rs n).length = (dueL (goM rs n) (dropR rs n)).length := goS_len _ _ _
  obtain ⟨m, hm⟩ : ∃ m, (dueL (goM rs n) (dropR rs n))[i]? = some m := ⟨_, List.getElem?_eq_getElem (by omega)⟩
  have hg := goSg (goM rs n) (dropR rs n) hm
  have hg' : (goT rs n)[i]? = _ := hg
  rw [h] at hg'
  cases hg'
  have hil := (List.getElem?_eq_some_iff.mp hm).1
  have hsplit : dueL (goM rs n) (dropR rs n) = (dueL (goM rs n) (dropR rs n)).take i ++ (m :: (dueL (goM rs n) (dropR rs n)).drop (i + 1)) := by
    have e2 : (dueL (goM rs n) (dropR rs n)).drop i = m :: (dueL (goM rs n) (dropR rs n)).drop (i + 1) := by
      rw [List.drop_eq_getElem_cons hil, (List.getElem?_eq_some_iff.mp hm).2]
    rw [← e2, List.take_append_drop]
  have G := go_at (n := n) I hsplit
  have hb : ∀ s, s < 2 → ∀ e, (endsOf (dropR rs n) s).count e ≤ goM rs n := fun s hs e => cnt_ge _ s hs e
  have hkb : m ∈ keys (dropR rs n) := (mem_due.mp (List.mem_of_getElem? hm)).1
  have hk : m ∈ keys (goS (goM rs n) (dropR rs n) ((dueL (goM rs n) (dropR rs n)).take i)).1 := (G.ks m).mpr hkb
  have hmr := (dropR_key.mp hkb).1
  have hlen := I.len
  have hgm := goM_le (n := n) I
  have kb : ∀ k ∈ keys (dropR (goS (goM rs n) (dropR rs n) ((dueL (goM rs n) (dropR rs n)).take i)).1 m), 0 ≤ k ∧ k ≤ 1000 := fun k hk' => by
    have k1 := (dropR_key.mp hk').1
    have k2 := (dropR_key.mp ((G.ks k).mp k1)).1
    have := I.below k k2
    omega
  have nl : (dropR (goS (goM rs n) (dropR rs n) ((dueL (goM rs n) (dropR rs n)).take i)).1 m).length ≤ 40 := by
    have h1 := dropR_le (goS (goM rs n) (dropR rs n) ((dueL (goM rs n) (dropR rs n)).take i)).1 m
    have h2 := D4.nodup_len G.nd (m := keys rs) fun k hk' => (dropR_key.mp ((G.ks k).mp hk')).1
    rw [keys_len, keys_len] at h2
    omega
  exact gvb_of (step_given G hb hk) (by omega) kb nl (I.below m hmr).1 (by have := (I.below m hmr).2; omega)
theorem tellL_len {p : Int × Gv} (h : GvB p) : (tellL p).length ≤ 43 := by
  unfold tellL
  have := h.len
  cases p.2.other with
  | none => show 2 ≤ 43; decide
  | some o => simp only [List.length_append, List.length_cons, List.length_nil]; omega
theorem tellL_num {p : Int × Gv} (h : GvB p) : ∀ m ∈ tellL p, NumB m := by
  intro m hm
  unfold tellL at hm
  cases e : p.2.other with
  | none =>
    rw [e] at hm
    rcases List.mem_cons.mp hm with q | hm
    · rw [q]; exact h.n
    · rw [List.mem_singleton.mp hm]; exact h.h
  | some o =>
    rw [e] at hm
    simp only [List.cons_append, List.nil_append, List.mem_cons] at hm
    rcases hm with q | q | q | hm
    · rw [q]; exact h.n
    · rw [q]; exact h.h
    · rw [q]; exact h.o o e
    · exact h.ns m hm
/-- put together one by one -/
theorem tell_cat (n : Int) (ms : List Int) : ms.foldl (fun t m => t ++ spc ++ numS m) (numS n) = Txt.join spc ((n :: ms).map numS) := cat_join ms (numS n)
theorem plain_join {ns : List Int} (h : ∀ n ∈ ns, NumB n) : Plain (Txt.join spc (ns.map numS)) := by
  cases ns with
  | nil => exact .of (by decide +kernel)
  | cons n ns =>
    rw [List.map_cons, ← cat_join]
    exact plain_cat ns _ (plain_numS (h n List.mem_cons_self).1) fun m hm => (h m (List.mem_cons_of_mem _ hm)).1
theorem len_join {ns : List Int} (h : ∀ n ∈ ns, NumB n) : (Txt.join spc (ns.map numS)).length ≤ 31 * ns.length + 30 := by
  cases ns with
  | nil => have : (Txt.join spc ([].map numS)).length = 0 := by decide +kernel
           omega
  | cons n ns =>
    rw [List.map_cons, ← cat_join]
    have h1 := len_cat ns (numS n) fun m hm => h m (List.mem_cons_of_mem _ hm)
    have h2 := len_numS (h n List.mem_cons_self).1 (h n List.mem_cons_self).2
    rw [List.length_cons]
    omega
theorem plain_tell {p : Int × Gv} (h : GvB p) : Plain (tellT p) := plain_join (tellL_num h)
/-! ### a deed, a line -/
abbrev Hst := Rows × Int
def outD (a b : Int) (st : Hst) (c : Str) (ns : List Int) : Hst × List Str :=
  if c = ("come" : Str) then
    if 0 ≤ ns.getD 0 0 ∧ ns.getD 0 0 ≤ a - 1 ∧ 0 ≤ ns.getD 1 0 ∧ ns.getD 1 0 ≤ b - 1 then
      if st.1.length = 40 then (st, ["too many"]) else ((comeR st.1 st.2 (ns.getD 0 0) (ns.getD 1 0), st.2 + 1), [tellT (st.2, comeG st.1 (ns.getD 0 0) (ns.getD 1 0))])
    else (st, ["bad end"])
  else if ns.getD 0 0 ∈ keys st.1 then ((goR st.1 (ns.getD 0 0), st.2), (goT st.1 (ns.getD 0 0)).map tellT) else (st, ["no pair"])
def outL (a b : Int) (st : Hst) (z : Str) : Hst × List Str := match readO z with
  | none => (st, ["bad line"])
  | some r => outD a b st r.1 r.2
/-- all lines, one by one -/
def runL (a b : Int) : Hst → List Str → Hst × List (List Str)
  | st, [] => (st, [])
  | st, z :: zs => ((runL a b (outL a b st z).1 zs).1, (outL a b st z).2 :: (runL a b (outL a b st z).1 zs).2)
theorem runL_snoc (a b : Int) (z : Str) : ∀ (zs : List Str) (st : Hst), runL a b st (zs ++ [z]) = ((outL a b (runL a b st zs).1 z).1, (runL a b st zs).2 ++ [(outL a b (runL a b st zs).1 z).2])
  | [], st => rfl
  | y :: zs, st => by
    show ((runL a b (outL a b st y).1 (zs ++ [z])).1, _ :: (runL a b (outL a b st y).1 (zs ++ [z])).2) = _
    rw [runL_snoc a b z zs]; rfl
theorem runL_len (a b : Int) : ∀ (zs : List Str) (st : Hst), (runL a b st zs).2.length = zs.length
  | [], st => rfl
  | y :: zs, st => by
    show (runL a b (outL a b st y).1 zs).2.length + 1 = _
    rw [runL_len a b zs]; rfl
/-- texts that may be compared -/
def TxOk (ts : List Str) : Prop := ts.length ≤ 1000 ∧ ∀ t ∈ ts, Plain t
theorem txOk1 {t : Str} (h : Plain t) : TxOk [t] := ⟨by show 1 ≤ 1000; decide, fun x hx => by rw [List.mem_singleton.mp hx]; exact h⟩
structure OutOk (st : Hst) (o : Hst × List Str) : Prop where
  inv : Inv o.1.1 o.1.2
  came : o.1.2 = st.2 ∨ o.1.2 = st.2 + 1
  tx : TxOk o.2
theorem outD_ok {a b : Int} {st : Hst} (I : Inv st.1 st.2) (hc : st.2 ≤ 1000) (c : Str) (ns : List Int) : OutOk st (outD a b st c ns) := by
  unfold outD
  split
  · split
    · split
      · exact ⟨I, .inl rfl, txOk1 (.of (by decide +kernel))⟩
      · exact ⟨inv_come I (by have := I.len; omega) _ _, .inr rfl, txOk1 (plain_tell (gvb_come I hc _ _))⟩
    · exact ⟨I, .inl rfl, txOk1 (.of (by decide +kernel))⟩
  · split
    · refine ⟨inv_go I, .inl rfl, ?_, fun t ht => ?_⟩
      · have h1 : (goT st.1 (ns.getD 0 0)).length = (dueL (goM st.1 (ns.getD 0 0)) (dropR st.1 (ns.getD 0 0))).length := goS_len _ _ _
        have h2 : (dueL (goM st.1 (ns.getD 0 0)) (dropR st.1 (ns.getD 0 0))).length ≤ (sortK (keys (dropR st.1 (ns.getD 0 0)))).length := List.length_filter_le _ _
        rw [(sortK_perm _).length_eq, keys_len] at h2
        have := dropR_le st.1 (ns.getD 0 0)
        have := I.len
        rw [List.length_map]
        omega
      · obtain ⟨p, hp, rfl⟩ := List.mem_map.mp ht
        exact plain_tell (gvb_go I hc p hp)
    · exact ⟨I, .inl rfl, txOk1 (.of (by decide +kernel))⟩
theorem outL_ok {a b : Int} {st : Hst} (I : Inv st.1 st.2) (hc : st.2 ≤ 1000) (z : Str) : OutOk st (outL a b st z) := by
  unfold outL
  cases readO z with
  | none => exact ⟨I, .inl rfl, txOk1 (.of (by decide +kernel))⟩
  | some r => exact outD_ok I hc _ _
theorem outD_come (a b l r : Int) (rs : Rows) (came : Int) : outD a b (rs, came) ("come" : Str) [l, r] = if 0 ≤ l ∧ l ≤ a - 1 ∧ 0 ≤ r ∧ r ≤ b - 1 then
      if rs.length = 40 then ((rs, came), [("too many" : Str)]) else ((comeR rs came l r, came + 1), [tellT (came, comeG rs l r)])
    else ((rs, came), [("bad end" : Str)]) := if_pos rfl
theorem outD_go (a b n : Int) (rs : Rows) (came : Int) : outD a b (rs, came) ("go" : Str) [n] = if n ∈ keys rs then ((goR rs n, came), (goT rs n).map tellT) else ((rs, came), [("no pair" : Str)]) := by
  unfold outD
  rw [if_neg (show ¬ (("go" : Str) = "come") from by decide +kernel)]
  rfl
end Ph
end

section
set_option maxRecDepth 100000
set_option maxHeartbeats 4000000
set_option pp.maxSteps 600
open PySem L2 D4
local macro_rules | `(tactic| walk_at "op") => `(tactic| first
  | exact o_add | exact o_sub | exact o_mul (Or.inr ⟨by decide, by decide⟩) | exact o_mul (Or.inl ⟨by decide, by decide⟩) | exact o_div ⟨by decide, by decide⟩ | exact o_mod (by decide) | exact o_lt | exact o_le | exact o_gt | exact o_ge
  | exact o_eqI | exact o_neI | exact o_eqS | exact o_neS | exact o_eqB | exact o_neB | exact o_isN | exact o_notN)
local macro_rules | `(tactic| walk_at "la") => `(tactic| first | exact LA.l | exact LA.c (by assumption) | exact LA.c um_same | exact LA.c (by walk_at "m"))
local macro_rules | `(tactic| walk_at "ix") => `(tactic| first | exact x_tup rfl | exact x_tup (by assumption) | exact x_scr (by assumption) | exact x_la (by walk_at "la") (by assumption) | exact x_la (by walk_at "la") rfl)
local macro_rules | `(tactic| walk_at "m") => `(tactic| first | assumption | exact um_same | exact um_old (by assumption) (by assumption))
local macro_rules | `(tactic| walk_at "w") => `(tactic| first | assumption | exact Nw.wr (by assumption) | exact Or.inl (by assumption))
local macro_rules | `(tactic| walk_at "dk") => `(tactic| first | exact Or.inl (by walk_at "m") | exact Or.inr ⟨_, _, by walk_at "m"⟩)
local macro_rules | `(tactic| walk_at "key") => `(tactic| first | exact IsKey.i (by walk_at "dk") | exact IsKey.t (by walk_at "m"))
local macro_rules | `(tactic| walk_at "ty") => `(tactic| first | exact TyD.int | exact TyD.bl | exact TyD.str | exact TyD.lst | exact TyD.tup | exact TyD.non | exact TyD.cl (by walk_at "m") | exact TyD.cd (by walk_at "m"))
local macro_rules | `(tactic| walk_at "call") => `(tactic| first
  | exact c_lenA (by walk_at "la") | exact c_len_scr | exact c_len_tup | exact c_len_dk (by walk_at "dk") | exact c_isi (c := true) (by walk_at "ty") | exact c_isi (c := false) (by walk_at "ty")
  | exact c_int_bl | exact c_all rfl | exact c_list_lst | exact c_tuple_lst | exact c_max2 rfl | exact c_min2 rfl)

namespace Ph
open PySem L2 D4 K8
section
variable {P : Program} {w : World} {K : Fg} {mg : Str → Option Value} {base : Heap}
/-! deeds as texts: number_in, deed_of -/
def S_number_in (ln : Addr) : FSp := PureX fun _ ds r => ∃ z : Str, ds = [.str z] ∧ z.length ≤ 100000 ∧ r = numR ln z
theorem numOk_not {z : Str} {c : Nat} {l : List Nat} (e : TL.tl z = c :: l) (h0 : z.cps[0]? = some c) (hc : (decide (z = ("" : Str)) || ((decide ((⟨#[c]⟩ : Str) = ("0" : Str)) && !decide (z = ("0" : Str))) || decide ((30 : Int) < (z.length : Nat)))) = true) (hz : ¬ z = ("" : Str)) : numOk z = false := by
  rw [Bool.eq_false_iff]
  intro h
  obtain ⟨h1, h2, h3, h4⟩ := numOk_iff.mp h
  rw [Bool.or_eq_true, decide_eq_true_eq, Bool.or_eq_true, Bool.and_eq_true, decide_eq_true_eq, Bool.not_eq_true', decide_eq_false_iff_not, decide_eq_true_eq, sg_zero] at hc
  rcases hc with hc | ⟨hc, hc2⟩ | hc
  · exact hz hc
  · exact hc2 (h2 (by rw [h0, hc]))
  · omega
theorem numOk_rest {z : Str} {c : Nat} (h0 : z.cps[0]? = some c) (hc : (decide (z = ("" : Str)) || ((decide ((⟨#[c]⟩ : Str) = ("0" : Str)) && !decide (z = ("0" : Str))) || decide ((30 : Int) < (z.length : Nat)))) = false) (h : ∀ c ∈ TL.tl z, c ∈ digs.cps.toList) : numOk z = true := by
  rw [Bool.or_eq_false_iff, Bool.or_eq_false_iff, Bool.and_eq_false_iff, decide_eq_false_iff_not, decide_eq_false_iff_not, Bool.not_eq_false', decide_eq_true_eq, decide_eq_false_iff_not, sg_zero] at hc
  obtain ⟨h1, h2, h3⟩ := hc
  refine numOk_iff.mpr ⟨h1, fun e => ?_, by omega, fun c hc => mem_digs.mp (h c hc)⟩
  rw [h0] at e
  rcases h2 with h2 | h2
  · exact absurd (Option.some.inj e) h2
  · exact h2
theorem ok_number_in {ln : Addr} (F : FdOk K mg "number_in" ["word"] s_number_in) (X_line : XcF K mg "BadLine" ln) (g_FIG : ∃ t, mg "FIGURES" = some (.str digs t)) (n_len : mg "len" = none) (n_int : mg "int" = none) : OkF P w K mg base "number_in" ["word"] 1 (S_number_in ln) := by
  obtain ⟨tF, g_FIG⟩ := g_FIG
  refine fnO F sc_number_in (fun own fr M ds Φ Ψ h => ?_) (fun f cdv A outer s H E hr b M ds Φ Ψ fr hfr h => ?_)
  · obtain ⟨r, ⟨z, rfl, _⟩, _⟩ := h
    rfl
  · obtain ⟨r, ⟨z, rfl, hl, rfl⟩, hΦ⟩ := h
    have ND := sc_number_in.nd
    have bad : numOk z = false → Ψ (.ref ln) M := fun e => by
      unfold numR at hΦ
      rw [if_neg (by rw [e]; decide)] at hΦ
      exact hΦ
    by_cases hz : z = ("" : Str)
    · refine sws_cons (sw_if (TW.to (c := true) (tv_pw (TVW.cast (c := decide (z = ("" : Str)) || true) (tvw_or (tv_cmp (ev_var 0 rfl) ev_str (by walk_at "op")) fun h => absurd hz (of_decide_eq_false h)) (by simp))) ⟨fun hc => ?_, fun hc => (by cases hc)⟩))
      exact sws_cons (sw_raise X_line rfl rfl (bad (by rw [hz]; decide +kernel)))
    · obtain ⟨c, l, e, h0⟩ := first_sign hz
      refine sws_cons (sw_if (TW.to (tv_pw (tvw_or (tv_cmp (ev_var 0 rfl) ev_str (by walk_at "op")) fun _ => (tvw_or (tv_pw (tvw_and (tv_cmp (ev_sign (c := c) (ev_var 0 rfl) ev_int (by decide) (by omega) h0) ev_str (by walk_at "op")) fun _ => (tvw_and1 (tv_cmp (ev_var 0 rfl) ev_str (by walk_at "op"))))) fun _ => (tvw_or1 (tv_cmp (ev_cb rfl n_len b_len (evs_cons (ev_var 0 rfl) evs_nil) (c_len_str hl)) ev_int (by walk_at "op")))))) ⟨fun hc => ?_, fun hc => ?_⟩))
      · exact sws_cons (sw_raise X_line rfl rfl (bad (numOk_not e h0 hc hz)))
      · refine sws_nil ?_
        refine sws_cons (sw_forS (fun i M' δ' => M' = M ∧ (∀ c ∈ (TL.tl z).take i, c ∈ digs.cps.toList) ∧ ∃ o, δ' = [some (.str z), o]) (passes_of rfl) rfl (ev_var 0 rfl) ⟨rfl, by simp, _, rfl⟩ ?_ ?_)
        · rintro i c' M' δ' hi ⟨rfl, hd, o, rfl⟩
          refine gw_name 1 ?_ ND
          refine sws_cons (sw_if (TW.to (tv_cmp (ev_var 1 rfl) (ev_glob (v := .str digs) rfl g_FIG ⟨tF, rfl⟩ fun _ => Rep.str_iff.mpr rfl) o_notinSg) ⟨fun hc2 => ?_, fun hc2 => ?_⟩))
          · refine sws_cons (sw_raise X_line rfl rfl (bad ?_))
            rw [Bool.eq_false_iff]
            intro h
            rw [Bool.not_eq_true', decide_eq_false_iff_not] at hc2
            exact hc2 (mem_digs.mpr ((numOk_iff.mp h).2.2.2 c' (List.mem_of_getElem? hi)))
          · refine sws_nil (sws_nil ⟨rfl, fun c1 h1 => ?_, _, rfl⟩)
            rw [take_snoc hi] at h1
            rcases List.mem_append.mp h1 with h1 | h1
            · exact hd c1 h1
            · rw [List.mem_singleton.mp h1]
              rw [Bool.not_eq_false', decide_eq_true_eq] at hc2
              exact hc2
        · rintro M' δ' ⟨rfl, hd, o, rfl⟩
          rw [List.take_length] at hd
          have hok := numOk_rest h0 hc hd
          have h30 := (numOk_iff.mp hok).2.2.1
          unfold numR at hΦ
          rw [if_pos hok] at hΦ
          exact sws_cons (sw_ret (EW.to (ev_ct rfl n_int b_int (evs_cons (ev_var 0 rfl) evs_nil) (c_int_str (intText_ok hok) (by omega))) hΦ))
def S_deed_of (ln : Addr) : FSp := PureX fun M ds r => ∃ (x : D) (t : String), ds = [x] ∧ TyD M x t ∧ (∀ z, x = .str z → z.length ≤ 100000) ∧ r = deedR ln x
theorem ok_deed_of {ln : Addr} (F : FdOk K mg "deed_of" ["line"] s_deed_of) (X_line : XcF K mg "BadLine" ln) (G_number_in : OkF P w K mg base "number_in" ["word"] 1 (S_number_in ln)) (n_len : mg "len" = none) (n_isinstance : mg "isinstance" = none) (n_str : mg "str" = none) (n_tuple : mg "tuple" = none) : OkF P w K mg base "deed_of" ["line"] 2 (S_deed_of ln) := by
  refine fnO F sc_deed_of (fun own fr M ds Φ Ψ h => ?_) (fun f cdv A outer s H E hr b M ds Φ Ψ fr hfr h => ?_)
  · obtain ⟨r, ⟨x, t, rfl, _⟩, _⟩ := h
    rfl
  · obtain ⟨r, ⟨x, t, rfl, ht, hl, rfl⟩, hΦ⟩ := h
    have ND := sc_deed_of.nd
    rcases not_text ln ht with ⟨z, rfl⟩ | ⟨hk, hr2⟩
    · have hl := hl z rfl
      obtain ⟨w0, ws, es⟩ := split_ne z
      refine sws_cons (sw_if (TW.to (c := false) (tv_not (c := true) (tv_val (ev_cb rfl n_isinstance b_isinstance (evs_cons (ev_var 0 rfl) (evs_cons (ev_bltn (v := .ty "str") rfl n_str b_str rfl) evs_nil)) (c_isi (c := true) TyD.str)))) ⟨fun hc => (by cases hc), fun _ => sws_nil ?_⟩))
      refine sws_cons (sw_set 1 (EW.to (EV.cast (ev_split (y := spc) (ev_var 0 rfl) ev_str (by decide +kernel) (Nat.le_trans (Nat.add_le_add_right hl 2) (by rw [sizeLine_eq]; decide))) (by rw [es])) ?_) ND)
      have ew0 : atI ((w0 :: ws).map D.str) 0 = some (.str w0) := atI_nat (xs := (w0 :: ws).map D.str) (j := 0) (v := .str w0) rfl
      have hlen : (((w0 :: ws).map D.str).length : Int) = (ws.length : Int) + 1 := by simp
      have bad : readO z = none → Ψ (.ref ln) M := fun e => by
        unfold deedR at hΦ
        simp only [e] at hΦ
        exact hΦ
      have er : readO z = if ((w0 = ("come" : Str) ∧ ws.length = 2) ∨ (w0 = ("go" : Str) ∧ ws.length = 1)) ∧ ws.all numOk = true then some (w0, ws.map valW) else none := by
        unfold readO
        rw [es]
      refine sws_cons (sw_if (TW.to (tv_pw (tvw_or (tv_pw (tvw_and (tv_cmp (ev_ix (ev_var 1 rfl) ev_int (by walk_at "ix")) ev_str (by walk_at "op")) fun _ => (tvw_and1 (tv_cmp (ev_cb rfl n_len b_len (evs_cons (ev_var 1 rfl) evs_nil) (by walk_at "call")) ev_int (by walk_at "op"))))) fun _ => (tvw_or1 (tv_pw (tvw_and (tv_cmp (ev_ix (ev_var 1 rfl) ev_int (by walk_at "ix")) ev_str (by walk_at "op")) fun _ => (tvw_and1 (tv_cmp (ev_cb rfl n_len b_len (evs_cons (ev_var 1 rfl) evs_nil) (by walk_at "call")) ev_int (by walk_at "op")))))))) ⟨fun hc => ?_, fun hc => ?_⟩))
      · have hf : (w0 = ("come" : Str) ∧ ws.length = 2) ∨ (w0 = ("go" : Str) ∧ ws.length = 1) := by
          rw [hlen, Bool.or_eq_true, Bool.and_eq_true, Bool.and_eq_true, decide_eq_true_eq, decide_eq_true_eq, decide_eq_true_eq, decide_eq_true_eq] at hc
          rcases hc with ⟨h1, h2⟩ | ⟨h1, h2⟩
          · exact .inl ⟨h1, by omega⟩
          · exact .inr ⟨h1, by omega⟩
        have hw : ws.length ≤ 2 := by omega
        have eo := outs_nums ln ws
        refine sws_cons (sw_ret (ew_ct rfl n_tuple b_tuple (ews_cons (ew_bin (EW.to (EV.cast (ev_cut (l := none) (h := some ((1 : Nat) : Int)) (ev_var 1 rfl) LA.l .none (.some ev_int)) (d' := .lst [.str w0]) (by rw [cutD_take]; rfl)) ?_)))))
        refine ew_lcX [("word", 2)] 2 (numDS ln) rfl ND rfl rfl G_number_in hr (by decide) (fun _ _ _ _ _ _ _ => rfl) (EV.cast (ev_cut (l := some ((1 : Nat) : Int)) (h := none) (ev_var 1 rfl) LA.l (.some ev_int) .none) (d' := .lst (ws.map D.str)) (by rw [cutD_drop]; rfl)) (by rw [List.length_map]; omega)
          (fun d _ _ _ _ _ => gs_name 2 ND) (fun d hd M' hM _ _ _ _ _ _ _ => evs_cons (ev_var 2 rfl) evs_nil) (fun d hd M' hM => ?_) (fun ds eo' => ?_) (fun c eo' => ?_)
        · obtain ⟨u, hu, rfl⟩ := List.mem_map.mp hd
          exact ⟨u, rfl, Nat.le_trans (split_len (by rw [es]; exact List.mem_cons_of_mem _ hu)) hl, rfl⟩
        · rw [eo] at eo'
          cases ea : ws.all numOk with
          | false => rw [ea] at eo'; cases eo'
          | true =>
            rw [ea, if_pos rfl] at eo'
            cases eo'
            refine OW.imp (o_cat LA.l LA.l (by simp; omega)) fun M1 d1 hd1 => ?_
            obtain ⟨rfl, rfl⟩ := hd1
            refine EWs.to evs_nil (CW.imp c_tuple_lst fun M2 d2 hd2 => ?_)
            obtain ⟨rfl, rfl⟩ := hd2
            unfold deedR at hΦ
            simp only [er, if_pos (show ((w0 = ("come" : Str) ∧ ws.length = 2) ∨ (w0 = ("go" : Str) ∧ ws.length = 1)) ∧ ws.all numOk = true from ⟨hf, ea⟩)] at hΦ
            exact hΦ
        · rw [eo] at eo'
          cases ea : ws.all numOk with
          | true => rw [ea, if_pos rfl] at eo'; cases eo'
          | false =>
            rw [ea, if_neg (by decide)] at eo'
            cases eo'
            exact bad (by rw [er, if_neg (by rw [ea]; simp)])
      · refine sws_nil (sws_cons (sw_raise X_line rfl rfl (bad ?_)))
        rw [er, if_neg]
        rintro ⟨hf, _⟩
        rw [hlen, Bool.or_eq_false_iff, Bool.and_eq_false_iff, Bool.and_eq_false_iff, decide_eq_false_iff_not, decide_eq_false_iff_not, decide_eq_false_iff_not, decide_eq_false_iff_not] at hc
        rcases hf with ⟨h1, h2⟩ | ⟨h1, h2⟩
        · rcases hc.1 with h | h
          · exact h h1
          · omega
        · rcases hc.2 with h | h
          · exact h h1
          · omega
    · rw [hr2] at hΦ
      refine sws_cons (sw_if (TW.to (c := true) (tv_not (c := false) (tv_val (ev_cb rfl n_isinstance b_isinstance (evs_cons (ev_var 0 rfl) (evs_cons (ev_bltn (v := .ty "str") rfl n_str b_str rfl) evs_nil)) (c_isi (c := false) ht hk)))) ⟨fun hc => ?_, fun hc => (by cases hc)⟩))
      exact sws_cons (sw_raise X_line rfl rfl hΦ)
/-! sizes -/
def S_sizes_by : FSp := fun _ _ M ds Φ _ => ∃ c : Int, ds = [.int c] ∧ ∀ a b z : Int, 1 ≤ a → a ≤ 8 → 1 ≤ b → b ≤ 8 → 1 ≤ z → Φ M (.tup [.int a, .int b, .int z])
def e3 (t : Int × Int × Int) : D := .tup [.int t.1, .int t.2.1, .int t.2.2]
theorem at_mem {α : Type} (f : α → D) {xs : List α} {i : Int} (h0 : 0 ≤ i) (h1 : i < xs.length) : ∃ x ∈ xs, atI (xs.map f) i = some (f x) := by
  have hi : i.toNat < xs.length := by omega
  refine ⟨xs[i.toNat], List.getElem_mem hi, ?_⟩
  have e : (i.toNat : Int) = i := by omega
  have := atI_nat (xs := xs.map f) (j := i.toNat) (v := f xs[i.toNat]) (by simp [hi])
  rw [e] at this; exact this
def rd3 : Expr → Option (Int × Int × Int)
  | .Tuple [.Constant (.int i) _ _, .Constant (.int j) _ _, .Constant (.int k) _ _] _ _ => some (i, j, k)
  | _ => none
def rdAll : List Expr → Option (List (Int × Int × Int))
  | [] => some []
  | e :: es => match rd3 e, rdAll es with
    | some t, some ts => some (t :: ts)
    | _, _ => none
theorem ev_rd3 {X : Cx} {b : Bs} {δ : Od} {M : Mp} {e : Expr} {t : Int × Int × Int} (h : rd3 e = some t) : EV X b δ M e (e3 t) := by
  unfold rd3 at h
  split at h
  · cases h; exact ev_tup (evs_cons ev_int (evs_cons ev_int (evs_cons ev_int evs_nil)))
  · cases h
theorem rd3_star {e : Expr} {t : Int × Int × Int} (h : rd3 e = some t) : isStar e = false := by
  unfold rd3 at h
  split at h
  · rfl
  · cases h
theorem evs_rd {X : Cx} {b : Bs} {δ : Od} {M : Mp} : ∀ {es : List Expr} {ts : List (Int × Int × Int)}, rdAll es = some ts → EVs X b δ M es (ts.map e3)
  | [], ts, h => by
    cases h; exact evs_nil
  | e :: es, ts, h => by
    unfold rdAll at h
    split at h
    · rename_i t ts' h1 h2
      cases h
      exact evs_cons (ev_rd3 h1) (evs_rd h2) (D4.starEach_c (rd3_star h1))
    · cases h
def lits : List (Int × Int × Int) := [(8, 8, 2), (7, 8, 2), (6, 6, 3), (8, 8, 3), (4, 4, 3), (3, 3, 40), (2, 5, 40), (5, 5, 2)]
def tab (c : Int) : List (Int × Int × Int) := lits ++ [(1 + c / 10 % 8, 1 + c / 80 % 8, 2 + c / 640 % 7), (8, 8, 40)]
theorem tab_ok (c : Int) (t : Int × Int × Int) (ht : t ∈ tab c) : 1 ≤ t.1 ∧ t.1 ≤ 8 ∧ 1 ≤ t.2.1 ∧ t.2.1 ≤ 8 ∧ 1 ≤ t.2.2 := by
  unfold tab at ht
  have h1 := Int.emod_nonneg (c / 10) (b := 8) (by decide)
  have h2 := Int.emod_lt_of_pos (c / 10) (b := 8) (by decide)
  have h3 := Int.emod_nonneg (c / 80) (b := 8) (by decide)
  have h4 := Int.emod_lt_of_pos (c / 80) (b := 8) (by decide)
  have h5 := Int.emod_nonneg (c / 640) (b := 7) (by decide)
  generalize c / 10 % 8 = x at *
  generalize c / 80 % 8 = y at *
  generalize c / 640 % 7 = z at *
  rcases List.mem_append.mp ht with ht | ht
  · have : ∀ t ∈ ([(8, 8, 2), (7, 8, 2), (6, 6, 3), (8, 8, 3), (4, 4, 3), (3, 3, 40), (2, 5, 40), (5, 5, 2)] : List (Int × Int × Int)), 1 ≤ t.1 ∧ t.1 ≤ 8 ∧ 1 ≤ t.2.1 ∧ t.2.1 ≤ 8 ∧ 1 ≤ t.2.2 := by decide
    exact this t ht
  · rcases List.mem_cons.mp ht with h | h
    · subst h
      exact ⟨show (1 : Int) ≤ 1 + x by omega, show 1 + x ≤ 8 by omega, show (1 : Int) ≤ 1 + y by omega, show 1 + y ≤ 8 by omega, show (1 : Int) ≤ 2 + z by omega⟩
    · rw [List.mem_singleton.mp h]
      exact ⟨by decide, by decide, by decide, by decide, by decide⟩
theorem ok_sizes_by (F : FdOk K mg "_law_sizes_by" ["_law_cell"] s_law_sizes_by) : OkF P w K mg base "_law_sizes_by" ["_law_cell"] 1 S_sizes_by := by
  refine fnO F sc_law_sizes_by (fun own fr M ds Φ Ψ h => ?_) (fun f cdv A outer s H E hr b M ds Φ Ψ fr hfr h => ?_)
  · obtain ⟨c, rfl, _⟩ := h
    rfl
  · obtain ⟨c, rfl, hΦ⟩ := h
    have ND := sc_law_sizes_by.nd
    obtain ⟨t, ht, hat⟩ := at_mem e3 (xs := tab c) (i := c % 10) (by omega) (by show _ < (10 : Int); omega)
    have hb := tab_ok c t ht
    refine sws_cons (sw_set 1 (EW.to (ev_lst (ds := lits.map e3) (evs_rd (ts := lits) (by decide +kernel)) (by decide)) ?_) ND)
    refine sws_cons (sw_ret (EW.to (ev_ix (EV.cast (ev_bin (ev_var 1 rfl) (ev_lst (evs_cons (ev_tup (evs_cons (ev_bin ev_int (ev_bin (ev_bin (ev_var 0 rfl) ev_int (by walk_at "op")) ev_int (by walk_at "op")) (by walk_at "op")) (evs_cons (ev_bin ev_int (ev_bin (ev_bin (ev_var 0 rfl) ev_int (by walk_at "op")) ev_int (by walk_at "op")) (by walk_at "op")) (evs_cons (ev_bin ev_int (ev_bin (ev_bin (ev_var 0 rfl) ev_int (by walk_at "op")) ev_int (by walk_at "op")) (by walk_at "op")) evs_nil)))) (evs_cons (ev_tup (evs_cons ev_int (evs_cons ev_int (evs_cons ev_int evs_nil)))) evs_nil))) (o_cat .l .l (by show 8 + 2 ≤ 100000; decide))) (by unfold tab; rw [List.map_append]; rfl)) (ev_bin (ev_var 0 rfl) ev_int (by walk_at "op")) (x_lst hat)) (hΦ t.1 t.2.1 t.2.2 hb.1 hb.2.1 hb.2.2.1 hb.2.2.2.1 hb.2.2.2.2)))
/-! two ends -/
abbrev ERow := Int × List D × Int × Int
def encE (es : List ERow) : List (Int × D) := es.map fun x => (x.1, .tup x.2.1)
def okE (es : List ERow) : Prop := ∀ x ∈ es, ∀ s : Nat, s < 2 → atI x.2.1 (s : Int) = some (.int (pick s x.2.2.1 x.2.2.2))
def toE (rs : Rows) : List ERow := rs.map fun x => (x.1, enc3 x.2, x.2.1, x.2.2.1)
theorem encE_toE (rs : Rows) : encE (toE rs) = encR rs := by unfold encE toE encR; rw [List.map_map]; rfl
theorem okE_toE (rs : Rows) : okE (toE rs) := fun x hx s hs => by
  obtain ⟨y, _, rfl⟩ := List.mem_map.mp hx
  rcases (show s = 0 ∨ s = 1 by omega) with rfl | rfl <;> rfl
def S_law_ends : FSp := fun _ _ M ds Φ _ => ∃ (c a b z : Int) (ra : Addr) (es : List ERow), ds = [.int c, .tup [.int a, .int b, .int z], .loc (.ref ra)] ∧ M ra = some (.dI (encE es)) ∧ okE es ∧ es.length ≤ 100 ∧ 1 ≤ a ∧ a ≤ 8 ∧ 1 ≤ b ∧ b ≤ 8 ∧ ∀ l r : Int, 0 ≤ l → l ≤ a - 1 → 0 ≤ r → r ≤ b - 1 → Φ M (.tup [.int l, .int r])
theorem sizes_at (a b z : Int) {s : Nat} (hs : s < 2) : atI [D.int a, D.int b, D.int z] (s : Int) = some (.int (pick s a b)) := by
  rcases (show s = 0 ∨ s = 1 by omega) with rfl | rfl <;> rfl
theorem div_at {s : Nat} (hs : s < 2) : ∃ k : Int, atI [D.int 1, D.int 40] (s : Int) = some (.int k) ∧ CDiv 0 k := by
  rcases (show s = 0 ∨ s = 1 by omega) with rfl | rfl
  · exact ⟨1, rfl, by decide, by decide⟩
  · exact ⟨40, rfl, by decide, by decide⟩
theorem ok_law_ends (F : FdOk K mg "_law_ends" ["_law_cell", "_law_sizes", "_law_rows"] s_law_ends) (n_range : mg "range" = none) (n_list : mg "list" = none) (n_len : mg "len" = none) : OkF P w K mg base "_law_ends" ["_law_cell", "_law_sizes", "_law_rows"] 1 S_law_ends := by
  refine fnO F sc_law_ends (fun own fr M ds Φ Ψ h => ?_) (fun f cdv A outer s H E hr b M ds Φ Ψ fr hfr h => ?_)
  · obtain ⟨c, a, b, z, ra, es, rfl, _⟩ := h
    rfl
  · obtain ⟨c, a, b', z, ra, es, rfl, hm, hes, hl, ha1, ha2, hb1, hb2, hΦ⟩ := h
    have ND := sc_law_ends.nd
    refine sws_cons (sw_set 3 (ew_lstN (EWs.to evs_nil ⟨by decide, fun q hq1 hq2 => ?_⟩)) ND)
    have hrq : ra ≠ q := ne_m hm hq1
    refine sws_cons (sw_forR (fun i M' δ' => ∃ L : List Int, L.length = i ∧ (∀ j n, L[j]? = some n → 0 ≤ n ∧ n ≤ pick j a b' - 1) ∧ M' = um M q (.lst (L.map D.int)) ∧ ∃ o4 o5 o6 o7 o8 o9, δ' = [some (.int c), some (.tup [.int a, .int b', .int z]), some (.loc (.ref ra)), some (.loc (.ref q)), o4, o5, o6, o7, o8, o9]) (passes_of rfl) rfl rfl n_range ev_int (by decide) (by decide) ⟨[], rfl, fun j n h => by simp at h, rfl, _, _, _, _, _, _, rfl⟩ ?_ ?_)
    · rintro s' M' δ' hs' ⟨L, hL, hLb, rfl, o4, o5, o6, o7, o8, o9, rfl⟩
      have hs : s' < 2 := by omega
      have hma : um M q (.lst (L.map D.int)) ra = some (.dI (encE es)) := by rw [um_ne hrq]; exact hm
      have hsz : 1 ≤ pick s' a b' ∧ pick s' a b' ≤ 8 := by
        rcases (show s' = 0 ∨ s' = 1 by omega) with rfl | rfl
        · exact ⟨ha1, ha2⟩
        · exact ⟨hb1, hb2⟩
      refine gw_name 4 ?_ ND
      refine sws_cons (sw_set 5 (EW.to (ev_lcV (xs := es) [("_law_row", 8)] [8] (fun _ => true) (fun x => .int (pick s' x.2.2.1 x.2.2.2)) (fun x => [.tup x.2.1]) (fun x => x.1) (fun x => .tup x.2.1) rfl ND hma (fun _ _ => ev_var 2 rfl) (by omega) (fun x hx _ _ _ _ _ => gs_name 8 ND) (fun b2 z2 hW hz x hx M2 hM => turn0 rfl fun _ _ _ _ _ => ev_ix (ev_var 8 rfl) (ev_var 4 rfl) (x_tup (hes x hx s' hs)))) ?_) ND)
      have e1 : (es.filter fun _ => true).map (fun x => D.int (pick s' x.2.2.1 x.2.2.2)) = (es.map fun x => pick s' x.2.2.1 x.2.2.2).map D.int := by rw [filter_all (fun _ => rfl), List.map_map]; rfl
      rw [e1]
      refine sws_cons (sw_set 6 (EW.to (d := .lst ((List.range (pick s' a b').toNat).map fun i : Nat => D.int (i : Int))) (ev_listRg rfl rfl n_list rfl n_range (ev_ix (ev_var 1 rfl) (ev_var 4 rfl) (x_tup (sizes_at a b' z hs))) (by omega) (by omega)) ?_) ND)
      have e2 : ((List.range (pick s' a b').toNat).map fun i : Nat => D.int (i : Int)) = ((List.range (pick s' a b').toNat).map fun i : Nat => (i : Int)).map D.int := by rw [List.map_map]; rfl
      rw [e2]
      have hev : ∀ n ∈ (List.range (pick s' a b').toNat).map (fun i : Nat => (i : Int)), 0 ≤ n ∧ n ≤ pick s' a b' - 1 := fun n hn => by
        obtain ⟨i, hi, rfl⟩ := List.mem_map.mp hn
        have := List.mem_range.mp hi
        omega
      have hne : (List.range (pick s' a b').toNat).map (fun i : Nat => (i : Int)) ≠ [] := fun h => by
        have := congrArg List.length h
        rw [List.length_map, List.length_range] at this
        have : (pick s' a b').toNat = 0 := this
        omega
      have hel : ((List.range (pick s' a b').toNat).map (fun i : Nat => (i : Int))).length ≤ 8 := by rw [List.length_map, List.length_range]; omega
      generalize (List.range (pick s' a b').toNat).map (fun i : Nat => (i : Int)) = every at hev hne hel
      have hsome : ∃ some' : List Int, some' ≠ [] ∧ (∀ n ∈ some', n ∈ every) ∧ some'.length ≤ 8 ∧ ∀ T : List Int, T = every.filter (fun n => decide (((es.map fun x => pick s' x.2.2.1 x.2.2.2).count n : Int) < z)) → (T = [] → some' = every) ∧ (T ≠ [] → some' = T) := by
        by_cases h : every.filter (fun n => decide (((es.map fun x => pick s' x.2.2.1 x.2.2.2).count n : Int) < z)) = []
        · exact ⟨every, hne, fun n h => h, hel, fun T e => ⟨fun _ => rfl, fun h2 => absurd (e.trans h) h2⟩⟩
        · exact ⟨_, h, fun n hn => (List.mem_filter.mp hn).1, Nat.le_trans (List.length_filter_le _ _) hel, fun T e => ⟨fun h2 => absurd (e.symm.trans h2) h, fun _ => e.symm⟩⟩
      obtain ⟨some', hs1, hs2, hs3, hs4⟩ := hsome
      obtain ⟨hs5, hs6⟩ := hs4 _ rfl
      refine sws_cons (sw_set 7 (EW.to (d := .lst (some'.map D.int)) (ev_orL (EV.cast (ev_lcA (xs := every) (enc := D.int) [("_law_end", 9)] [9] (fun n => decide (((es.map fun x => pick s' x.2.2.1 x.2.2.2).count n : Int) < z)) D.int (fun n => [.int n]) rfl ND (ev_var 6 rfl) .l (by omega) (fun x hx _ _ _ _ _ => gs_name 9 ND) (fun x hx M2 hM => turn1 (fun _ _ _ _ _ => (tv_cmp (ev_count (ev_var 5 rfl) .l (ev_var 9 rfl)) (ev_ix (ev_var 1 rfl) ev_int (by walk_at "ix")) (by walk_at "op"))) fun _ _ _ _ _ _ => (ev_var 9 rfl))) rfl) (fun h => EV.cast (ev_one (ev_var 6 rfl)) (by rw [hs5 (List.map_eq_nil_iff.mp h)])) (fun h => by rw [hs6 (fun e => h (by rw [e]; rfl))])) ?_) ND)
      obtain ⟨k, hk1, hk2⟩ := div_at hs
      have hpos : 0 < some'.length := List.length_pos_iff.mpr hs1
      have hmod := Int.emod_lt_of_pos (c / k) (b := ((some'.map D.int).length : Int)) (by rw [List.length_map]; omega)
      have hmod0 := Int.emod_nonneg (c / k) (b := ((some'.map D.int).length : Int)) (by rw [List.length_map]; omega)
      obtain ⟨n, hn, hnat⟩ := at_ints (ns := some') hmod0 (by rw [List.length_map] at hmod ⊢; exact hmod)
      have hb := hev n (hs2 n hn)
      refine sws_cons (sw_expr (ew_append (ev_var 3 rfl) um_same (.inl hq2) (by rw [List.length_map]; omega) (EW.to (ev_ix (ev_var 7 rfl) (ev_bin (ev_bin (ev_var 0 rfl) (ev_ix (ev_lst (evs_cons ev_int (evs_cons ev_int evs_nil))) (ev_var 4 rfl) (x_lst hk1)) (o_div ⟨hk2.1, hk2.2⟩)) (ev_cb rfl n_len b_len (evs_cons (ev_var 7 rfl) evs_nil) (c_lenA .l)) (o_mod (by rw [List.length_map]; omega))) (x_lst hnat)) ⟨um_same, ?_⟩)))
      refine sws_nil ⟨L ++ [n], by rw [List.length_append, hL]; rfl, ?_, ?_, _, _, _, _, _, _, rfl⟩
      · intro j m hj
        by_cases hjl : j < L.length
        · rw [List.getElem?_append_left hjl] at hj; exact hLb j m hj
        · rw [List.getElem?_append_right (by omega)] at hj
          have : j = s' := by
            by_cases e : j - L.length = 0
            · omega
            · rw [List.getElem?_eq_none (by show 1 ≤ _; omega)] at hj; cases hj
          subst this
          rw [hL, Nat.sub_self] at hj
          cases hj
          exact hb
      · rw [um_um, List.map_append]; rfl
    · rintro M' δ' ⟨L, hL, hLb, rfl, o4, o5, o6, o7, o8, o9, rfl⟩
      match L, hL with
      | [l, r], _ =>
        have h0 := hLb 0 l rfl
        have h1 := hLb 1 r rfl
        refine sws_cons (sw_ret (EW.less (EW.to (ev_tup (evs_cons (ev_ix (ev_var 3 rfl) ev_int (x_la (.c um_same) rfl)) (evs_cons (ev_ix (ev_var 3 rfl) ev_int (x_la (.c um_same) rfl)) evs_nil))) ⟨M, Sub.um hq1, hΦ l r h0.1 h0.2 h1.1 h1.2⟩)))
/-! a hall, seen from outside -/
def HallAt (C : Addr) (M : Mp) (h p : Addr) (a b came : Int) (rs : Rows) : Prop := (∃ dx, M h = some (.ins C dx (hallF p a b came)) ∧ M p = some (.dI (encR rs))) ∧ Inv rs came
/-- what is no hall's own stays -/
def Kept (h : Addr) (M M' : Mp) : Prop := ∀ x c, x ≠ h → M x = some c → M' x = some c
theorem HallAt.keep {C : Addr} {M M' : Mp} {h p : Addr} {a b came : Int} {rs : Rows} (H : HallAt C M h p a b came rs) (k : ∀ x c, x = h ∨ x = p → M x = some c → M' x = some c) : HallAt C M' h p a b came rs := by
  obtain ⟨⟨dx, h1, h2⟩, I⟩ := H
  exact ⟨⟨dx, k _ _ (.inl rfl) h1, k _ _ (.inr rfl) h2⟩, I⟩
theorem HallAt.um {C : Addr} {M : Mp} {h p q : Addr} {a b came : Int} {rs : Rows} {c : D4.C} (H : HallAt C M h p a b came rs) (hq : M q = none) : HallAt C (um M q c) h p a b came rs := H.keep fun x c _ => Sub.um hq x c
/-- a list that is changed is no hall -/
theorem HallAt.set {C : Addr} {M : Mp} {h p q : Addr} {a b came : Int} {rs : Rows} {c : D4.C} {xs : List D} (H : HallAt C M h p a b came rs) (hq : M q = some (.lst xs)) : HallAt C (D4.um M q c) h p a b came rs := by
  obtain ⟨⟨dx, h1, h2⟩, I⟩ := H
  exact ⟨⟨dx, by rw [um_ne (ne_cell h1 hq (fun e => by cases e))]; exact h1, by rw [um_ne (ne_cell h2 hq (fun e => by cases e))]; exact h2⟩, I⟩
theorem HallAt.ne {C : Addr} {M : Mp} {h p : Addr} {a b came : Int} {rs : Rows} (H : HallAt C M h p a b came rs) : h ≠ p := by
  obtain ⟨⟨dx, h1, h2⟩, I⟩ := H
  exact hm_ne h1 h2
theorem new_call {C : Addr} {er : Er → Addr} {b : Bs} {M : Mp} {x dx : Addr} {l r : Int} {Φ : Mp → Prop} {Ψ : Xs} (hx : M x = none) (hn : Nw b x) (l1 : 1 ≤ l) (l8 : l ≤ 8) (r1 : 1 ≤ r) (r8 : r ≤ 8)
    (k : ∀ M' p, M p = none → Nw b p → HallAt C M' x p l r 0 [] → (∀ y c, M y = some c → M' y = some c) → Φ M') :
    CallS b (S_init C er) (um M x (.ins C dx [])) [.loc (.ref x), .int l, .int r] (fun M2 d => d = .non ∧ Φ M2) Ψ := by
  have hok : (amongB (.int l) 1 8 && amongB (.int r) 1 8) = true := by
    show ((decide (1 ≤ l) && decide (l ≤ 8)) && (decide (1 ≤ r) && decide (r ≤ 8))) = true
    rw [decide_eq_true l1, decide_eq_true l8, decide_eq_true r1, decide_eq_true r8]; rfl
  refine ⟨fun y => y = x, fun y e => (by subst e; exact .inl hn), fun fr hf => ⟨x, dx, .int l, .int r, _, _, rfl, um_same, rfl, .int, .int, fun _ a b' ea eb q hq hq1 => ?_, fun h => by rw [hok] at h; cases h⟩⟩
  cases ea; cases eb
  have hqx : q ≠ x := fun e => by rw [e, um_same] at hq1; cases hq1
  have hqM : M q = none := by rw [um_ne hqx] at hq1; exact hq1
  refine ⟨rfl, k _ q hqM (hf q hq).2 ⟨⟨dx, by rw [um_ne (Ne.symm hqx), um_same], um_same⟩, inv_nil⟩ fun y c hy => ?_⟩
  have hyx : y ≠ x := fun e => by rw [e, hx] at hy; cases hy
  have hyq : y ≠ q := fun e => by rw [e, hqM] at hy; cases hy
  rw [um_ne hyq, um_ne hyx, um_ne hyx]; exact hy
theorem come_call {C : Addr} {er : Er → Addr} {b : Bs} {M : Mp} {h p : Addr} {a b' came l r : Int} {rs : Rows} {Φ : Mp → D → Prop} {Ψ : Xs} (H : HallAt C M h p a b' came rs) (hw : Wr b h) (hl : rs.length < 40) (l0 : 0 ≤ l) (l1 : l ≤ a - 1) (r0 : 0 ≤ r) (r1 : r ≤ b' - 1)
    (k : ∀ M' p' nq, M p' = none → Nw b p' → HallAt C M' h p' a b' (came + 1) (comeR rs came l r) → M nq = none → Nw b nq → M' nq = some (.lst ((comeG rs l r).ns.map D.int)) → Kept h M M' → Φ M' (.tup [.int came, .int (comeG rs l r).hue, gD (comeG rs l r).other, .loc (.ref nq)])) :
    CallS b (S_come C er) M [.loc (.ref h), .int l, .int r] Φ Ψ := by
  obtain ⟨⟨dx, h1, h2⟩, I⟩ := H
  have ol : amongB (.int l) 0 (a - 1) = true := by show (decide (0 ≤ l) && decide (l ≤ a - 1)) = true; rw [decide_eq_true l0, decide_eq_true l1]; rfl
  have orr : amongB (.int r) 0 (b' - 1) = true := by show (decide (0 ≤ r) && decide (r ≤ b' - 1)) = true; rw [decide_eq_true r0, decide_eq_true r1]; rfl
  refine ⟨fun y => y = h, fun y e => (by subst e; exact hw), fun fr hf => ⟨h, dx, p, a, b', came, .int l, .int r, _, _, rs, rfl, h1, h2, rfl, .int, .int, I, fun e => (by rw [ol] at e; cases e), fun _ e => (by rw [orr] at e; cases e), fun _ _ e => (by omega), fun _ li ri el er' _ _ _ _ q nq hq hnq hq1 hnq1 hne => ?_⟩⟩
  cases el; cases er'
  have hqh : q ≠ h := fun e => by rw [e, h1] at hq1; cases hq1
  have hnh : nq ≠ h := fun e => by rw [e, h1] at hnq1; cases hnq1
  refine k _ q nq hq1 (hf q hq).2 ⟨⟨dx, by rw [um_ne (Ne.symm hnh), um_ne (Ne.symm hqh), um_same], by rw [um_ne hne, um_same]⟩, inv_come I hl l r⟩ hnq1 (hf nq hnq).2 um_same fun x c hx ex => ?_
  have hxq : x ≠ q := fun e => by rw [e, hq1] at ex; cases ex
  have hxn : x ≠ nq := fun e => by rw [e, hnq1] at ex; cases ex
  rw [um_ne hxn, um_ne hxq, um_ne hx]; exact ex
theorem pairs_call {C : Addr} {M : Mp} {h p : Addr} {a b came : Int} {rs : Rows} (H : HallAt C M h p a b came rs) : P_pairs C M [.loc (.ref h)] ((sortK (keys rs)).map (pairD rs)) := by
  obtain ⟨⟨dx, h1, h2⟩, I⟩ := H
  have := I.len
  exact ⟨h, dx, p, a, b, came, rs, rfl, h1, h2, by omega, I.nd, rfl⟩
theorem count_call {C : Addr} {M : Mp} {h p : Addr} {a b came : Int} {rs : Rows} (H : HallAt C M h p a b came rs) : P_count C M [.loc (.ref h)] (.int (cntR (rs.map (·.2)) : Nat)) := by
  obtain ⟨⟨dx, h1, h2⟩, I⟩ := H
  have := I.len
  exact ⟨h, dx, p, a, b, came, rs, rfl, h1, h2, by omega, rfl⟩
theorem hue_of_call {C : Addr} {er : Er → Addr} {M : Mp} {h p : Addr} {a b came n : Int} {rs : Rows} (H : HallAt C M h p a b came rs) (hk : n ∈ keys rs) : P_hue_of C er M [.loc (.ref h), .int n] (.inl (.int (hueOf (rowOf rs n)))) := by
  obtain ⟨⟨dx, h1, h2⟩, I⟩ := H
  exact ⟨h, dx, p, a, b, came, rs, .int n, _, rfl, h1, h2, I, .int, .inr ⟨n, rfl, hk, rfl⟩⟩
/-! small -/
theorem given_nsl (rs : Rows) (l r : Int) (many : Nat) : (given rs l r many).ns.length ≤ 2 * rs.length + 1 := by
  unfold given
  cases both rs l r many with
  | cons h t => exact Nat.zero_le _
  | nil =>
    cases hw : ways rs l r many with
    | nil => exact Nat.zero_le _
    | cons w ws =>
      have hm := minW_mem w ws
      rw [← hw] at hm
      show (minW w ws).2.2.2.length ≤ _
      generalize minW w ws = m at hm ⊢
      obtain ⟨s, hs, hm⟩ := mem_ways hm
      obtain ⟨m1, m2, m3, m4⟩ := mem_waysS hm
      rw [m3]
      exact chain_len _ _ _ _ _
def mostOf (a b : Nat) (first : Int) : Nat := if decide (first / 5120 % 8 = 1) = true then b else a
theorem most_at (a b : Nat) (first : Int) : atI [D.int (a : Nat), D.int (b : Nat)] (if decide (first / 5120 % 8 = 1) = true then 1 else 0) = some (.int (mostOf a b first : Nat)) := by
  unfold mostOf
  cases decide (first / 5120 % 8 = 1) <;> rfl
theorem cut_script (ns : List Int) (m : Nat) : D.lst (cutD (ns.map D.int) (some 1) (some (1 + (m : Int)))) = .lst (((ns.drop 1).take m).map D.int) := by
  have := cutD_ints ns 1 (1 + m)
  rw [show ((1 + m : Nat) : Int) = 1 + (m : Int) by omega, show 1 + m - 1 = m by omega] at this
  exact congrArg D.lst this
/-! come and go, seen from outside; what is told is frozen -/
theorem come_callF {C : Addr} {er : Er → Addr} {b : Bs} {M : Mp} {h p : Addr} {a b' came l r : Int} {rs : Rows} {Φ : Mp → D → Prop} {Ψ : Xs} (H : HallAt C M h p a b' came rs) (hw : Wr b h) (hl : rs.length < 40) (l0 : 0 ≤ l) (l1 : l ≤ a - 1) (r0 : 0 ≤ r) (r1 : r ≤ b' - 1)
    (k : ∀ M' p', M p' = none → Nw b p' → HallAt C M' h p' a b' (came + 1) (comeR rs came l r) → Kept h M M' → Φ M' (encG (came, comeG rs l r))) :
    CallS b (S_come C er) M [.loc (.ref h), .int l, .int r] (FrzT b Φ) Ψ :=
  come_call H hw hl l0 l1 r0 r1 fun M' p' nq hp1 hp2 H' hn1 hn2 hnq kept => ⟨[.int came, .int (comeG rs l r).hue, gD (comeG rs l r).other], nq, _, rfl, hnq, hn2, k _ p' hp1 hp2 (by
    obtain ⟨dx, fs, hm⟩ : ∃ dx fs, M h = some (.ins C dx fs) := by
      obtain ⟨⟨dx, h1, _⟩, _⟩ := H
      exact ⟨dx, _, h1⟩
    refine H'.keep fun x c hx e => ?_
    rw [dm_ne]
    · exact e
    · intro e2
      rcases hx with hx | hx
      · rw [← hx, e2, hn1] at hm; cases hm
      · obtain ⟨⟨_, _, h2⟩, _⟩ := H'
        rw [← hx, e2, hnq] at h2; cases h2) fun x c hx e => by
    rw [dm_ne (fun e2 => by rw [e2, hn1] at e; cases e)]
    exact kept x c hx e⟩
theorem go_call {C : Addr} {er : Er → Addr} {b : Bs} {M : Mp} {h p : Addr} {a b' came n : Int} {rs : Rows} {Φ : Mp → D → Prop} {Ψ : Xs} (H : HallAt C M h p a b' came rs) (hw : Wr b h) (hk : n ∈ keys rs)
    (k : ∀ M' p' tq, M p' = none → Nw b p' → HallAt C M' h p' a b' came (goR rs n) → M tq = none → Nw b tq → M' tq = some (.lst ((goT rs n).map encG)) → Kept h M M' → Φ M' (.loc (.ref tq))) :
    CallS b (S_go C er) M [.loc (.ref h), .int n] Φ Ψ := by
  obtain ⟨⟨dx, h1, h2⟩, I⟩ := H
  refine ⟨fun y => y = h, fun y e => (by subst e; exact hw), fun fr hf => ⟨h, dx, p, a, b', came, .int n, _, rs, rfl, h1, h2, rfl, .int, I, fun e => (by
    have e : decide (n ∈ keys rs) = false := e
    rw [decide_eq_true hk] at e; cases e), fun m e hm q tq hq htq hq1 htq1 hne => ?_⟩⟩
  cases e
  have hqh : q ≠ h := fun e => by rw [e, h1] at hq1; cases hq1
  have hth : tq ≠ h := fun e => by rw [e, h1] at htq1; cases htq1
  refine k _ q tq hq1 (hf q hq).2 ⟨⟨dx, by rw [um_ne (Ne.symm hth), um_ne (Ne.symm hqh), um_same], by rw [um_ne hne, um_same]⟩, inv_go I⟩ htq1 (hf tq htq).2 um_same fun x c hx ex => ?_
  have hxq : x ≠ q := fun e => by rw [e, hq1] at ex; cases ex
  have hxn : x ≠ tq := fun e => by rw [e, htq1] at ex; cases ex
  rw [um_ne hxn, um_ne hxq, um_ne hx]; exact ex
theorem gD_ok (o : Option Int) : okD (gD o) = true := by cases o <;> rfl
theorem gD_dep (o : Option Int) : depD (gD o) = 0 := by cases o <;> rfl
theorem ok_encG (p : Int × Gv) : okD (encG p) = true ∧ depD (encG p) ≤ 50 := by
  constructor
  · show okDs [.int p.1, .int p.2.hue, gD p.2.other, .lst (p.2.ns.map D.int)] = true
    simp only [okDs, okD, gD_ok, Bool.true_and, Bool.and_true]
    exact okDs_ints _
  · show depDs [.int p.1, .int p.2.hue, gD p.2.other, .lst (p.2.ns.map D.int)] + 1 ≤ 50
    have := depDs_ints p.2.ns
    simp only [depDs, depD, gD_dep]
    omega
theorem okd_gs (gs : List (Int × Gv)) : Okd (.lst (gs.map encG)) := Okd.lst fun d hd => by
  obtain ⟨p, _, rfl⟩ := List.mem_map.mp hd
  exact ok_encG p
theorem okd_gsn (gs : List (Int × Gv)) : Okd (.lst (gs.map encG ++ [.non])) := Okd.lst fun d hd => by
  rcases List.mem_append.mp hd with hd | hd
  · obtain ⟨p, _, rfl⟩ := List.mem_map.mp hd
    exact ok_encG p
  · rw [List.mem_singleton.mp hd]; exact ⟨rfl, Nat.zero_le _⟩
theorem goT_len {rs : Rows} {came n : Int} (I : Inv rs came) : (goT rs n).length ≤ 40 := by
  have h1 : (goT rs n).length = (dueL (goM rs n) (dropR rs n)).length := goS_len _ _ _
  have h2 : (dueL (goM rs n) (dropR rs n)).length ≤ (sortK (keys (dropR rs n))).length := List.length_filter_le _ _
  rw [(sortK_perm _).length_eq, keys_len] at h2
  have := dropR_le rs n
  have := I.len
  omega
theorem sub_kept {M M1 M2 : Mp} {h : Addr} (hs : Sub M M1) (k : Kept h M1 M2) (hh : M h = none) : Sub M M2 := fun x c e => k x c (fun e2 => by rw [e2, hh] at e; cases e) (hs x c e)
end
end Ph
end

section
set_option maxRecDepth 100000
set_option maxHeartbeats 4000000
set_option pp.maxSteps 600
open PySem L2 D4
local macro_rules | `(tactic| walk_at "op") => `(tactic| first
  | exact o_add | exact o_sub | exact o_mul (Or.inr ⟨by decide, by decide⟩) | exact o_mul (Or.inl ⟨by decide, by decide⟩) | exact o_div ⟨by decide, by decide⟩ | exact o_mod (by decide) | exact o_lt | exact o_le | exact o_gt | exact o_ge
  | exact o_eqI | exact o_neI | exact o_eqS | exact o_neS | exact o_eqB | exact o_neB | exact o_isN | exact o_notN)
local macro_rules | `(tactic| walk_at "la") => `(tactic| first | exact LA.l | exact LA.c (by assumption) | exact LA.c um_same | exact LA.c (by walk_at "m"))
local macro_rules | `(tactic| walk_at "ix") => `(tactic| first | exact x_tup rfl | exact x_tup (by assumption) | exact x_scr (by assumption) | exact x_la (by walk_at "la") (by assumption) | exact x_la (by walk_at "la") rfl)
local macro_rules | `(tactic| walk_at "m") => `(tactic| first | assumption | exact um_same | exact um_old (by assumption) (by assumption))
local macro_rules | `(tactic| walk_at "w") => `(tactic| first | assumption | exact Nw.wr (by assumption) | exact Or.inl (by assumption))
local macro_rules | `(tactic| walk_at "dk") => `(tactic| first | exact Or.inl (by walk_at "m") | exact Or.inr ⟨_, _, by walk_at "m"⟩)
local macro_rules | `(tactic| walk_at "key") => `(tactic| first | exact IsKey.i (by walk_at "dk") | exact IsKey.t (by walk_at "m"))
local macro_rules | `(tactic| walk_at "ty") => `(tactic| first | exact TyD.int | exact TyD.bl | exact TyD.str | exact TyD.lst | exact TyD.tup | exact TyD.non | exact TyD.cl (by walk_at "m") | exact TyD.cd (by walk_at "m"))
local macro_rules | `(tactic| walk_at "call") => `(tactic| first
  | exact c_lenA (by walk_at "la") | exact c_len_scr | exact c_len_tup | exact c_len_dk (by walk_at "dk") | exact c_isi (c := true) (by walk_at "ty") | exact c_isi (c := false) (by walk_at "ty")
  | exact c_int_bl | exact c_all rfl | exact c_list_lst | exact c_tuple_lst | exact c_max2 rfl | exact c_min2 rfl)

namespace Ph
open PySem L2 D4 K8
section
variable {P : Program} {w : World} {K : Fg} {mg : Str → Option Value} {base : Heap}
/-! the law: a deed -/
theorem cat_come (l r : Int) : ([D.str "come"] ++ [D.int l, .int r]) = [.str "come", .int l, .int r] := rfl
def S_law_deed : FSp := fun _ _ M ds Φ _ => ∃ (c a b z most : Int) (ra : Addr) (es : List ERow), ds = [.int c, .tup [.int a, .int b, .int z], .loc (.ref ra), .int most] ∧ M ra = some (.dI (encE es)) ∧ okE es ∧ es.length ≤ 60 ∧ 0 < most ∧ 1 ≤ a ∧ a ≤ 8 ∧ 1 ≤ b ∧ b ≤ 8 ∧
  (∀ n ∈ es.map (·.1), Φ M (.tup [.str "go", .int n])) ∧ ((es.length : Int) ≠ most → ∀ l r : Int, 0 ≤ l → l ≤ a - 1 → 0 ≤ r → r ≤ b - 1 → Φ M (.tup [.str "come", .int l, .int r]))
theorem encE_len (es : List ERow) : (encE es).length = es.length := List.length_map _
theorem encE_keys (es : List ERow) : (encE es).map (·.1) = es.map (·.1) := by unfold encE; rw [List.map_map]; rfl
theorem ok_law_deed (F : FdOk K mg "_law_deed" ["_law_cell", "_law_sizes", "_law_rows", "_law_most"] s_law_deed) (G_ends : OkF P w K mg base "_law_ends" ["_law_cell", "_law_sizes", "_law_rows"] 1 S_law_ends) (n_len : mg "len" = none) (n_sorted : mg "sorted" = none) : OkF P w K mg base "_law_deed" ["_law_cell", "_law_sizes", "_law_rows", "_law_most"] 2 S_law_deed := by
  refine fnO F sc_law_deed (fun own fr M ds Φ Ψ h => ?_) (fun f cdv A outer s H E hr b M ds Φ Ψ fr hfr h => ?_)
  · obtain ⟨c, a, b, z, most, ra, es, rfl, _⟩ := h
    rfl
  · obtain ⟨c, a, b', z, most, ra, es, rfl, hm, hes, hl, hmost, ha1, ha2, hb1, hb2, hgo, hcome⟩ := h
    have hlenEV : ∀ {M' : Mp}, M' ra = some (.dI (encE es)) → CW (cxOf (L2.CX P w) P w K mg base ["_law_cell", "_law_sizes", "_law_rows", "_law_most"] "_law_deed" (defScope s_law_deed) f cdv A outer s H E) b (.builtin "len") M' [.loc (.ref ra)] (One M' (.int (es.length : Nat))) := fun h => by
      have := c_len_dk (X := cxOf (L2.CX P w) P w K mg base ["_law_cell", "_law_sizes", "_law_rows", "_law_most"] "_law_deed" (defScope s_law_deed) f cdv A outer s H E) (b := b) (DkI.sub (.inl h) Sub.refl)
      rw [encE_len] at this
      exact this
    have cont : ∀ {Ψ' : Xs} {M' : Mp}, Sub M M' → TWW (cxOf (L2.CX P w) P w K mg base ["_law_cell", "_law_sizes", "_law_rows", "_law_most"] "_law_deed" (defScope s_law_deed) f cdv A outer s H E) b [some (.int c), some (.tup [.int a, .int b', .int z]), some (.loc (.ref ra)), some (.int most)] M' (match defBody s_law_deed with | (.If (.BoolOp o (_ :: e2 :: _) p) _ _ _) :: _ => .BoolOp o [e2] p | _ => .Constant .none 0 ⟨0, 0, 0, 0⟩) (fun M' k => Sub M M' ∧ (k = true → es ≠ []) ∧ (k = false → (es.length : Int) ≠ most)) Ψ' := fun hs =>
      tww_or1 (TW.to (tv_cmp (ev_cb rfl n_len b_len (evs_cons (ev_var 2 rfl) evs_nil) (hlenEV (hs _ _ hm))) (ev_var 3 rfl) (by walk_at "op")) ⟨hs, fun h e => (by
        have h : decide ((es.length : Int) = most) = true := h
        rw [decide_eq_true_eq, e] at h
        have : ((0 : Nat) : Int) = most := h
        omega), fun h e => (by
        have h : decide ((es.length : Int) = most) = false := h
        rw [decide_eq_true e] at h; cases h)⟩)
    have hcond : ∀ {Ψ' : Xs}, TW (cxOf (L2.CX P w) P w K mg base ["_law_cell", "_law_sizes", "_law_rows", "_law_most"] "_law_deed" (defScope s_law_deed) f cdv A outer s H E) b [some (.int c), some (.tup [.int a, .int b', .int z]), some (.loc (.ref ra)), some (.int most)] M (match defBody s_law_deed with | (.If c _ _ _) :: _ => c | _ => .Constant .none 0 ⟨0, 0, 0, 0⟩) (fun M' k => Sub M M' ∧ (k = true → es ≠ []) ∧ (k = false → (es.length : Int) ≠ most)) Ψ' := by
      intro Ψ'
      refine tw_pw (tww_or (tw_pw (tww_and (TW.to (tv_cmp (ev_bin (ev_var 0 rfl) ev_int (by walk_at "op")) ev_int (by walk_at "op")) ⟨fun hc1 => tww_and1 (tw_cmp (EW.to (ev_var 2 rfl) (ew_dictI fun p hp1 hp2 => (o_neD0 (by have := hu_of hr; omega) (um_old hm hp1) um_same).imp ?_))), fun hc1 => ⟨fun _ => cont Sub.refl, fun h => (by cases h)⟩⟩))))
      rintro M1 d1 ⟨rfl, rfl⟩
      refine ⟨_, rfl, fun _ => cont (Sub.um hp1), fun h => ⟨Sub.um hp1, fun _ e => ?_, fun e => (by cases e)⟩⟩
      rw [e] at h
      cases h
    refine sws_cons (sw_if (TW.imp hcond fun M' k hk => ⟨fun e => ?_, fun e => sws_nil ?_⟩))
    · obtain ⟨hs, h1, _⟩ := hk
      have hne := h1 e
      have hpos : 0 < es.length := List.length_pos_iff.mpr hne
      have hsl : (sortK (es.map (·.1))).length = es.length := by rw [(sortK_perm _).length_eq, List.length_map]
      obtain ⟨n, hn, hat⟩ := at_ints (ns := sortK (es.map (·.1))) (i := c / 16 % (es.length : Nat)) (Int.emod_nonneg _ (by omega)) (by rw [hsl]; exact Int.emod_lt_of_pos _ (by omega))
      exact sws_cons (sw_ret (EW.less (EW.to (ev_tup (evs_cons ev_str (evs_cons (ev_ix (ev_cb rfl n_sorted b_sorted (evs_cons (ev_var 2 rfl) evs_nil) (c_sortedD rfl (.inl (hs _ _ hm)) (by rw [encE_keys]; exact sortK_perm _) (sortK_le _) (by rw [encE_len]; omega))) (ev_bin (ev_bin (ev_var 0 rfl) ev_int (by walk_at "op")) (ev_cb rfl n_len b_len (evs_cons (ev_var 2 rfl) evs_nil) (hlenEV (hs _ _ hm))) (o_mod (by omega))) (x_lst hat)) evs_nil))) ⟨M, hs, hgo n (mem_sortK.mp hn)⟩)))
    · obtain ⟨hs, _, h2⟩ := hk
      refine sws_cons (sw_ret (EW.less (ew_bin (EW.to (ev_tup (evs_cons ev_str evs_nil)) (ew_callO G_ends hr rfl (EWs.to (evs_cons (ev_bin (ev_var 0 rfl) ev_int (by walk_at "op")) (evs_cons (ev_var 1 rfl) (evs_cons (ev_var 2 rfl) evs_nil))) (CallS.of fun fr' hf => ⟨_, a, b', z, ra, es, rfl, hs _ _ hm, hes, by omega, ha1, ha2, hb1, hb2, fun l r l0 l1 r0 r1 => (o_catT (fun h => by cases h) (by show 1 + 2 ≤ 100000; decide)).imp ?_⟩)))))))
      rintro M1 d1 ⟨rfl, rfl⟩
      exact ⟨M, hs, hcome (h2 e) l r l0 l1 r0 r1⟩
/-! what is told, as a text -/
def S_text_of : FSp := PureS fun M ds d => ∃ (p : Int × Gv) (nq : D), ds = [.tup [.int p.1, .int p.2.hue, gD p.2.other, nq]] ∧ LA M nq (p.2.ns.map D.int) ∧ GvB p ∧ d = .str (tellT p)
theorem num_log {n : Int} (h : NumB n) : n.natAbs.log2 < 1920 := by
  obtain ⟨h0, h1⟩ := h
  have e : ((10 : Int) ^ 30) = ((10 ^ 30 : Nat) : Int) := by decide
  rw [e] at h1
  have h2 : n.natAbs < 2 ^ 1920 := Nat.lt_of_lt_of_le (show n.natAbs < 10 ^ 30 by omega) (by decide +kernel)
  by_cases hz : n.natAbs = 0
  · rw [hz]; decide
  · exact (Nat.log2_lt hz).mpr h2
theorem sum_nums : ∀ {l : List Int}, (∀ n ∈ l, NumB n) → ((l.map numS).map (·.length)).sum ≤ 30 * l.length
  | [], _ => Nat.le_refl _
  | n :: l, h => by
    have h1 := len_numS (h n List.mem_cons_self).1 (h n List.mem_cons_self).2
    have h2 := sum_nums fun m hm => h m (List.mem_cons_of_mem _ hm)
    simp only [List.map_cons, List.sum_cons, List.length_cons]
    omega
theorem join_ok {l : List Int} (h : ∀ n ∈ l, NumB n) (hl : l.length ≤ 1000) : ((l.map numS).map (·.length)).sum + (l.map numS).length * spc.length ≤ 16777216 := by
  have h1 := sum_nums h
  rw [show spc.length = 1 from by decide +kernel, List.length_map]
  omega
theorem line_ok {n : Nat} (h : n ≤ 100000) : n ≤ sizeLine := Nat.le_trans h (by rw [sizeLine_eq]; decide)
theorem ok_text_of (F : FdOk K mg "text_of" ["told"] s_text_of) (n_str : mg "str" = none) : OkF P w K mg base "text_of" ["told"] 1 S_text_of := by
  refine fnO F sc_text_of (fun own fr M ds Φ Ψ h => ?_) (fun f cdv A outer s H E hr b M ds Φ Ψ fr hfr h => ?_)
  · obtain ⟨r, ⟨p, nq, rfl, _⟩, _⟩ := h
    rfl
  · obtain ⟨r, ⟨p, nq, rfl, hnq, hg, rfl⟩, hΦ⟩ := h
    have ND := sc_text_of.nd
    refine sws_cons (sw_set 1 (EW.to (ev_lst (evs_cons (ev_ix (ev_var 0 rfl) ev_int (by walk_at "ix")) (evs_cons (ev_ix (ev_var 0 rfl) ev_int (by walk_at "ix")) evs_nil))) ?_) ND)
    refine sws_mid (fun M' δ' => M' = M ∧ δ' = [some (.tup [.int p.1, .int p.2.hue, gD p.2.other, nq]), some (.lst ((tellL p).map D.int)), none]) (sw_if (TW.to (tv_cmp (ev_ix (ev_var 0 rfl) ev_int (by walk_at "ix")) ev_non (by walk_at "op")) ⟨fun hc => ?_, fun hc => ?_⟩)) ?_
    · cases e : p.2.other with
      | none => rw [e] at hc; cases hc
      | some o =>
        refine sws_cons (sw_set 1 (EW.to (ev_bin (ev_bin (ev_var 1 rfl) (ev_lst (evs_cons (ev_ix (ev_var 0 rfl) ev_int (by walk_at "ix")) evs_nil)) (o_cat LA.l LA.l (by show 2 + 1 ≤ 100000; decide))) (ev_ix (ev_var 0 rfl) ev_int (x_tup rfl)) (o_cat LA.l hnq (by rw [List.length_map]; have := hg.len; show 3 + _ ≤ _; omega))) ?_) ND)
        refine sws_nil ⟨rfl, ?_⟩
        have et : tellL p = [p.1, p.2.hue, o] ++ p.2.ns := by unfold tellL; rw [e]
        rw [et]
        rfl
    · cases e : p.2.other with
      | some o => rw [e] at hc; cases hc
      | none =>
        refine sws_nil ⟨rfl, ?_⟩
        have et : tellL p = [p.1, p.2.hue] := by unfold tellL; rw [e]
        rw [et]
        rfl
    · rintro M' δ' ⟨rfl, rfl⟩
      have hl := tellL_len hg
      exact sws_cons (sw_ret (EW.to (ev_join (z := spc) (ys := (tellL p).map numS) ev_str (EV.cast (d' := .lst (((tellL p).map numS).map D.str)) (ev_lcA (xs := tellL p) (enc := D.int) [("number", 2)] [2] (fun _ => true) (fun n => .str (numS n)) (fun n => [.int n]) rfl ND (ev_var 1 rfl) .l (by omega) (fun x hx _ _ _ _ _ => gs_name 2 ND)
        (fun n hn M2 hM => turn0 rfl fun _ _ _ _ _ => ev_ct rfl n_str b_str (evs_cons (ev_var 2 rfl) evs_nil) (c_str_int (num_log (tellL_num hg n hn))))) (by rw [filter_all (fun _ => rfl), List.map_map]; rfl)) LA.l (join_ok (tellL_num hg) (by omega))) hΦ))
theorem ok_law_text (F : FdOk K mg "_law_text" ["_law_told"] s_law_text) (n_str : mg "str" = none) : OkF P w K mg base "_law_text" ["_law_told"] 1 S_text_of := by
  refine fnO F sc_law_text (fun own fr M ds Φ Ψ h => ?_) (fun f cdv A outer s H E hr b M ds Φ Ψ fr hfr h => ?_)
  · obtain ⟨r, ⟨p, nq, rfl, _⟩, _⟩ := h
    rfl
  · obtain ⟨r, ⟨p, nq, rfl, hnq, hg, rfl⟩, hΦ⟩ := h
    have ND := sc_law_text.nd
    have hsl : spc.length = 1 := by decide +kernel
    have h1 := len_numS hg.n.1 hg.n.2
    have h2 := len_numS hg.h.1 hg.h.2
    refine sws_cons (sw_asg (EW.to (ev_var 0 rfl) (gw_tup rfl (gws_cons (gw_name 1 (gws_cons (gw_name 2 (gws_cons (gw_name 3 (gws_cons (gw_name 4 (gws_nil ?_) ND)) ND)) ND)) ND)))))
    refine sws_cons (sw_set 5 (EW.to (ev_bin (ev_bin (ev_ct rfl n_str b_str (evs_cons (ev_var 1 rfl) evs_nil) (c_str_int (num_log hg.n))) (ev_str (i := spc)) (o_catS (line_ok (by show (numS p.1).length + _ ≤ _; omega)))) (ev_ct rfl n_str b_str (evs_cons (ev_var 2 rfl) evs_nil) (c_str_int (num_log hg.h))) (o_catS (line_ok (by rw [len_append]; show (numS p.1).length + _ + (numS p.2.hue).length ≤ _; omega)))) ?_) ND)
    -- behind the other hue
    refine sws_mid (fun M' δ' => M' = M ∧ ∃ ms : List Int, tellL p = p.1 :: (ms ++ p.2.ns) ∧ ms.length ≤ 2 ∧ δ' = [some (.tup [.int p.1, .int p.2.hue, gD p.2.other, nq]), some (.int p.1), some (.int p.2.hue), some (gD p.2.other), some nq, some (.str (ms.foldl (fun t n => t ++ spc ++ numS n) (numS p.1))), none]) (sw_if (TW.to (tv_cmp (ev_var 3 rfl) ev_non (by walk_at "op")) ⟨fun hc => ?_, fun hc => ?_⟩)) ?_
    · cases e : p.2.other with
      | none => rw [e] at hc; cases hc
      | some o =>
        have h3 := len_numS (hg.o o e).1 (hg.o o e).2
        refine sws_cons (sw_set 5 (EW.to (ev_bin (ev_bin (ev_var 5 rfl) (ev_str (i := spc)) (o_catS (line_ok (by rw [len_append, len_append]; show (numS p.1).length + _ + (numS p.2.hue).length + _ ≤ _; omega)))) (ev_ct rfl n_str b_str (evs_cons (ev_var 3 rfl) evs_nil) (c_str_int (num_log (hg.o o e)))) (o_catS (line_ok (by rw [len_append, len_append, len_append]; show (numS p.1).length + _ + (numS p.2.hue).length + _ + (numS o).length ≤ _; omega)))) ?_) ND)
        exact sws_nil ⟨rfl, [p.2.hue, o], by unfold tellL; rw [e]; rfl, by show 2 ≤ 2; decide, rfl⟩
    · cases e : p.2.other with
      | some o => rw [e] at hc; cases hc
      | none => exact sws_nil ⟨rfl, [p.2.hue], by unfold tellL; rw [e]; simp only [hg.nil e]; rfl, by show 1 ≤ 2; decide, rfl⟩
    · rintro M' δ' ⟨rfl, ms, et, hms, rfl⟩
      have hnum : ∀ m ∈ ms ++ p.2.ns, NumB m := fun m hm => tellL_num hg m (by rw [et]; exact List.mem_cons_of_mem _ hm)
      have hns := hg.len
      refine sws_cons (sw_forL (xs := p.2.ns.map D.int) (fun i M2 δ2 => M2 = M' ∧ ∃ o6, δ2 = [some (.tup [.int p.1, .int p.2.hue, gD p.2.other, nq]), some (.int p.1), some (.int p.2.hue), some (gD p.2.other), some nq, some (.str ((ms ++ p.2.ns.take i).foldl (fun t n => t ++ spc ++ numS n) (numS p.1))), o6]) (passes_of rfl) rfl (ev_var 4 rfl) hnq ⟨rfl, _, by rw [List.take_zero, List.append_nil]⟩ (fun i M2 δ2 hh => by rw [hh.1]; exact hnq) ?_ ?_)
      · rintro i d M2 δ2 hi ⟨rfl, o6, rfl⟩
        rw [List.getElem?_map] at hi
        cases hn : p.2.ns[i]? with
        | none => rw [hn] at hi; cases hi
        | some n =>
          rw [hn] at hi
          cases hi
          refine gw_name 6 ?_ ND
          have hnb := hg.ns n (List.mem_of_getElem? hn)
          have l1 := len_numS hnb.1 hnb.2
          have l2 := len_cat (ms ++ p.2.ns.take i) (numS p.1) fun m hm => by
            rcases List.mem_append.mp hm with hm | hm
            · exact hnum m (List.mem_append_left _ hm)
            · exact hg.ns m (List.mem_of_mem_take hm)
          have l3 : (ms ++ p.2.ns.take i).length ≤ 42 := by rw [List.length_append, List.length_take]; omega
          refine sws_cons (sw_set 5 (EW.to (ev_bin (ev_bin (ev_var 5 rfl) (ev_str (i := spc)) (o_catS (line_ok (by omega)))) (ev_ct rfl n_str b_str (evs_cons (ev_var 6 rfl) evs_nil) (c_str_int (num_log hnb))) (o_catS (line_ok (by rw [len_append]; show _ + (numS n).length ≤ _; omega)))) ?_) ND)
          refine sws_nil ⟨rfl, some (.int n), ?_⟩
          have e1 : ∀ (A : List Int) (b : Str), (A ++ [n]).foldl (fun t n => t ++ spc ++ numS n) b = A.foldl (fun t n => t ++ spc ++ numS n) b ++ spc ++ numS n := fun A b => by rw [List.foldl_append]; rfl
          rw [take_snoc hn, ← List.append_assoc, e1]
          rfl
      · rintro M2 δ2 ⟨rfl, o6, rfl⟩
        rw [List.length_map, List.take_length]
        refine sws_cons (sw_ret (EW.to (ev_var 5 rfl) ?_))
        rw [tell_cat, ← et]
        exact hΦ
end
end Ph
end

section
set_option maxRecDepth 100000
set_option maxHeartbeats 4000000
set_option pp.maxSteps 600
open PySem L2 D4
local macro_rules | `(tactic| walk_at "op") => `(tactic| first
  | exact o_add | exact o_sub | exact o_mul (Or.inr ⟨by decide, by decide⟩) | exact o_mul (Or.inl ⟨by decide, by decide⟩) | exact o_div ⟨by decide, by decide⟩ | exact o_mod (by decide) | exact o_lt | exact o_le | exact o_gt | exact o_ge
  | exact o_eqI | exact o_neI | exact o_eqS | exact o_neS | exact o_eqB | exact o_neB | exact o_isN | exact o_notN)
local macro_rules | `(tactic| walk_at "la") => `(tactic| first | exact LA.l | exact LA.c (by assumption) | exact LA.c um_same | exact LA.c (by walk_at "m"))
local macro_rules | `(tactic| walk_at "ix") => `(tactic| first | exact x_tup rfl | exact x_tup (by assumption) | exact x_scr (by assumption) | exact x_la (by walk_at "la") (by assumption) | exact x_la (by walk_at "la") rfl)
local macro_rules | `(tactic| walk_at "m") => `(tactic| first | assumption | exact um_same | exact um_old (by assumption) (by assumption))
local macro_rules | `(tactic| walk_at "w") => `(tactic| first | assumption | exact Nw.wr (by assumption) | exact Or.inl (by assumption))
local macro_rules | `(tactic| walk_at "dk") => `(tactic| first | exact Or.inl (by walk_at "m") | exact Or.inr ⟨_, _, by walk_at "m"⟩)
local macro_rules | `(tactic| walk_at "key") => `(tactic| first | exact IsKey.i (by walk_at "dk") | exact IsKey.t (by walk_at "m"))
local macro_rules | `(tactic| walk_at "ty") => `(tactic| first | exact TyD.int | exact TyD.bl | exact TyD.str | exact TyD.lst | exact TyD.tup | exact TyD.non | exact TyD.cl (by walk_at "m") | exact TyD.cd (by walk_at "m"))
local macro_rules | `(tactic| walk_at "call") => `(tactic| first
  | exact c_lenA (by walk_at "la") | exact c_len_scr | exact c_len_tup | exact c_len_dk (by walk_at "dk") | exact c_isi (c := true) (by walk_at "ty") | exact c_isi (c := false) (by walk_at "ty")
  | exact c_int_bl | exact c_all rfl | exact c_list_lst | exact c_tuple_lst | exact c_max2 rfl | exact c_min2 rfl)

namespace Ph
open PySem L2 D4 K8
section
variable {P : Program} {w : World} {K : Fg} {mg : Str → Option Value} {base : Heap}
/-! the text of a refusal; a line's deed -/
inductive Rf where
  | ends | many | pair | line
def rfA (er : Er → Addr) (ln : Addr) : Rf → Addr
  | .ends => er .ends
  | .many => er .many
  | .pair => er .pair
  | .line => ln
def rfS : Rf → Str
  | .ends => "bad end"
  | .many => "too many"
  | .pair => "no pair"
  | .line => "bad line"
def rfB : Rf → Nat → Bool
  | .ends, 0 => true
  | .many, 1 => true
  | .pair, 2 => true
  | _, _ => false
structure WordT (K : Fg) (er : Er → Addr) (pe ln : Addr) : Prop where
  k0 : ∀ r, PySem.W.kitOne K (.ref (rfA er ln r)) (.ref (er .ends)) = some (rfB r 0)
  k1 : ∀ r, PySem.W.kitOne K (.ref (rfA er ln r)) (.ref (er .many)) = some (rfB r 1)
  k2 : ∀ r, PySem.W.kitOne K (.ref (rfA er ln r)) (.ref (er .pair)) = some (rfB r 2)
  xc : ∀ r, ExcC K (rfA er ln r)
  px : ∀ r, PySem.W.exmOne K (.ref (rfA er ln r)) (.ref pe) = some true
def T_word (er : Er → Addr) (ln : Addr) : Addr → Str → Prop := fun a t => ∃ r, a = rfA er ln r ∧ t = rfS r
theorem ok_word_of {er : Er → Addr} {pe ln : Addr} (F : FdOk K mg "word_of" ["error"] s_word_of) (WT : WordT K er pe ln) (X_ends : XcF K mg "BadEnd" (er .ends)) (X_many : XcF K mg "TooMany" (er .many)) (X_pair : XcF K mg "NoPair" (er .pair)) (n_isinstance : mg "isinstance" = none) : OkE P w K mg base "word_of" "error" 1 (T_word er ln) := by
  refine okE_mk F sc_word_of (fun f cdv A outer s H p Dc t ep hT hr b M Φ hΦ => ?_)
  obtain ⟨r, rfl, rfl⟩ := hT
  refine sws_cons (sw_if (TW.to (tv_val (ev_cb rfl n_isinstance b_isinstance (evs_cons (ev_var 0 rfl) (evs_cons (ev_glob (v := .ref (er .ends)) rfl X_ends.g rfl fun _ => Rep.loc_iff.mpr rfl) evs_nil)) (c_isH (WT.xc r) ep (fun u r => r) (WT.k0 r)))) ⟨fun hc => ?_, fun hc => sws_nil ?_⟩))
  · cases r <;> first | (cases hc; done) | exact sws_cons (sw_ret (EW.to ev_str hΦ))
  refine sws_cons (sw_if (TW.to (tv_val (ev_cb rfl n_isinstance b_isinstance (evs_cons (ev_var 0 rfl) (evs_cons (ev_glob (v := .ref (er .many)) rfl X_many.g rfl fun _ => Rep.loc_iff.mpr rfl) evs_nil)) (c_isH (WT.xc r) ep (fun u r => r) (WT.k1 r)))) ⟨fun hc2 => ?_, fun hc2 => sws_nil ?_⟩))
  · cases r <;> first | (cases hc2; done) | exact sws_cons (sw_ret (EW.to ev_str hΦ))
  refine sws_cons (sw_if (TW.to (tv_val (ev_cb rfl n_isinstance b_isinstance (evs_cons (ev_var 0 rfl) (evs_cons (ev_glob (v := .ref (er .pair)) rfl X_pair.g rfl fun _ => Rep.loc_iff.mpr rfl) evs_nil)) (c_isH (WT.xc r) ep (fun u r => r) (WT.k2 r)))) ⟨fun hc3 => ?_, fun hc3 => sws_nil ?_⟩))
  · cases r <;> first | (cases hc3; done) | exact sws_cons (sw_ret (EW.to ev_str hΦ))
  cases r <;> first | (cases hc; done) | (cases hc2; done) | (cases hc3; done) | exact sws_cons (sw_ret (EW.to ev_str hΦ))
/-- what comes is refused -/
theorem come_no {C : Addr} {er : Er → Addr} {b : Bs} {M : Mp} {h p : Addr} {a b' came l r : Int} {rs : Rows} {Φ : Mp → D → Prop} {Ψ : Xs} (H : HallAt C M h p a b' came rs) (hw : Wr b h) (hb : ¬ (0 ≤ l ∧ l ≤ a - 1 ∧ 0 ≤ r ∧ r ≤ b' - 1)) (k : Ψ (.ref (er .ends)) M) :
    CallS b (S_come C er) M [.loc (.ref h), .int l, .int r] Φ Ψ := by
  obtain ⟨⟨dx, h1, h2⟩, I⟩ := H
  have bad : amongB (.int l) 0 (a - 1) = true → amongB (.int r) 0 (b' - 1) = true → False := fun e1 e2 => by
    have e1 : (decide (0 ≤ l) && decide (l ≤ a - 1)) = true := e1
    have e2 : (decide (0 ≤ r) && decide (r ≤ b' - 1)) = true := e2
    rw [Bool.and_eq_true, decide_eq_true_eq, decide_eq_true_eq] at e1 e2
    exact hb ⟨e1.1, e1.2, e2.1, e2.2⟩
  refine ⟨fun y => y = h, fun y e => (by subst e; exact hw), fun fr hf => ⟨h, dx, p, a, b', came, .int l, .int r, _, _, rs, rfl, h1, h2, rfl, .int, .int, I, fun _ => k, fun _ _ => k, fun e1 e2 _ => (bad e1 e2).elim, fun _ li ri e1 e2 l0 l1 r0 r1 => ?_⟩⟩
  cases e1
  cases e2
  exact absurd ⟨l0, l1, r0, r1⟩ hb
theorem come_full {C : Addr} {er : Er → Addr} {b : Bs} {M : Mp} {h p : Addr} {a b' came l r : Int} {rs : Rows} {Φ : Mp → D → Prop} {Ψ : Xs} (H : HallAt C M h p a b' came rs) (hw : Wr b h) (hb : 0 ≤ l ∧ l ≤ a - 1 ∧ 0 ≤ r ∧ r ≤ b' - 1) (hl : rs.length = 40) (k : Ψ (.ref (er .many)) M) :
    CallS b (S_come C er) M [.loc (.ref h), .int l, .int r] Φ Ψ := by
  obtain ⟨⟨dx, h1, h2⟩, I⟩ := H
  have e1 : amongB (.int l) 0 (a - 1) = true := by show (decide (0 ≤ l) && decide (l ≤ a - 1)) = true; rw [decide_eq_true hb.1, decide_eq_true hb.2.1]; rfl
  have e2 : amongB (.int r) 0 (b' - 1) = true := by show (decide (0 ≤ r) && decide (r ≤ b' - 1)) = true; rw [decide_eq_true hb.2.2.1, decide_eq_true hb.2.2.2]; rfl
  exact ⟨fun y => y = h, fun y e => (by subst e; exact hw), fun fr hf => ⟨h, dx, p, a, b', came, .int l, .int r, _, _, rs, rfl, h1, h2, rfl, .int, .int, I, fun e => (by rw [e1] at e; cases e), fun _ e => (by rw [e2] at e; cases e), fun _ _ _ => k, fun hl2 => (by omega)⟩⟩
theorem go_no {C : Addr} {er : Er → Addr} {b : Bs} {M : Mp} {h p : Addr} {a b' came n : Int} {rs : Rows} {Φ : Mp → D → Prop} {Ψ : Xs} (H : HallAt C M h p a b' came rs) (hw : Wr b h) (hk : n ∉ keys rs) (k : Ψ (.ref (er .pair)) M) :
    CallS b (S_go C er) M [.loc (.ref h), .int n] Φ Ψ := by
  obtain ⟨⟨dx, h1, h2⟩, I⟩ := H
  exact ⟨fun y => y = h, fun y e => (by subst e; exact hw), fun fr hf => ⟨h, dx, p, a, b', came, .int n, _, rs, rfl, h1, h2, rfl, .int, I, fun _ => k, fun m e hm => (by cases e; exact absurd hm hk)⟩⟩
theorem kept_none {C : Addr} {M M' : Mp} {h p p' q : Addr} {a b came came' : Int} {rs rs' : Rows} (H : HallAt C M h p a b came rs) (H' : HallAt C M' h p' a b came' rs') (k : Kept h M M') (hq : M' q = none) : M q = none := by
  cases e : M q with
  | none => rfl
  | some c =>
    by_cases hh : q = h
    · obtain ⟨⟨_, h1, _⟩, _⟩ := H'
      rw [← hh, hq] at h1; cases h1
    · rw [k q c hh e] at hq; cases hq
/-- a line's deed, done -/
def S_done (C : Addr) : FSp := fun own fr M ds Φ _ => ∃ (h p : Addr) (a b came : Int) (rs : Rows) (z : Str), ds = [.loc (.ref h), .str z] ∧ HallAt C M h p a b came rs ∧ own h ∧ came ≤ 1000 ∧ z.length ≤ 100000 ∧
  ∀ M' p' q, fr q → M q = none → HallAt C M' h p' a b (outL a b (rs, came) z).1.2 (outL a b (rs, came) z).1.1 → M' q = some (.lst ((outL a b (rs, came) z).2.map D.str)) → Kept h M M' → Φ M' (.loc (.ref q))
theorem ok_done {C : Addr} {er : Er → Addr} {pe ln : Addr} (F : FdOk K mg "done" ["hall", "line"] s_done) (T : HallT K mg C) (WT : WordT K er pe ln) (G_deed_of : OkF P w K mg base "deed_of" ["line"] 2 (S_deed_of ln)) (G_text_of : OkF P w K mg base "text_of" ["told"] 1 S_text_of) (G_word : OkE P w K mg base "word_of" "error" 1 (T_word er ln)) (G_come : OkM P w K mg base C "come" ["self", "left", "right"] 6 (S_come C er)) (G_go : OkM P w K mg base C "go" ["self", "number"] 6 (S_go C er)) (g_PE : mg "PairError" = some (.ref pe)) : OkF P w K mg base "done" ["hall", "line"] 7 (S_done C) := by
  refine fnO F sc_done (fun own fr M ds Φ Ψ h => ?_) (fun f cdv A outer s H E hr b M ds Φ Ψ fr hfr h => ?_)
  · obtain ⟨h, p, a, b, came, rs, z, rfl, _⟩ := h
    rfl
  · obtain ⟨h, p, a, b', came, rs, z, rfl, hH, hown, hc, hl, hΦ⟩ := h
    have ND := sc_done.nd
    have hw : Wr b h := .inr hown
    obtain ⟨⟨dx, hm, hp⟩, hI⟩ := id hH
    refine sws_cons (sw_try_as 3 (c := .ref pe) ⟨rfl, by decide, .inl g_PE⟩ ND fun pn xe pa => ?_)
    have ends : ∀ (r : Rf), outL a b' (rs, came) z = ((rs, came), [rfS r]) → ∀ q, M q = none → Nw b q → Φ (um M q (.lst [.str (rfS r)])) (.loc (.ref q)) := fun r e q hq1 hq2 => by
      refine hΦ _ p q ((hfr q).mpr hq2) hq1 ?_ ?_ fun x c hx ex => um_old ex hq1
      · rw [e]; exact hH.um hq1
      · rw [e]; exact um_same
    cases e : readO z with
    | none =>
      have eo : outL a b' (rs, came) z = ((rs, came), [rfS .line]) := by unfold outL; rw [e]; rfl
      have ed : deedR ln (.str z) = .inr (.ref ln) := by unfold deedR; simp only [e]
      refine sws_cons (sw_set 2 (ew_callO G_deed_of hr rfl (EWs.to (evs_cons (ev_var 1 rfl) evs_nil) (CallS.exc ⟨.str z, _, rfl, .str, fun y hy => (by cases hy; exact hl), ed.symm⟩ ⟨true, WT.px .line, fun _ ea oe q hz hf => ?_, fun h => (by cases h)⟩))) ND)
      exact sws_cons (sw_ret (ew_lstN (EWs.to (evs_cons (ev_callE G_word hr rfl (ev_var 3 rfl) hz hf ⟨.line, rfl, rfl⟩) evs_nil) ⟨by show 1 ≤ 1000; decide, fun q hq1 hq2 => ends .line eo q hq1 hq2⟩)))
    | some d =>
      obtain ⟨c, ns⟩ := d
      have ed : deedR ln (.str z) = .inl (encO (c, ns)) := by unfold deedR; simp only [e]
      have eo : outL a b' (rs, came) z = outD a b' (rs, came) c ns := by unfold outL; rw [e]
      refine sws_cons (sw_set 2 (ew_callO G_deed_of hr rfl (EWs.to (evs_cons (ev_var 1 rfl) evs_nil) (CallS.val ⟨.str z, _, rfl, .str, fun y hy => (by cases hy; exact hl), ed.symm⟩ ?_))) ND)
      rcases readO_shape e with ⟨e1, e2⟩ | ⟨e1, e2⟩
      · have e1 : c = ("come" : Str) := e1
        obtain ⟨l, r, rfl⟩ : ∃ l r, ns = [l, r] := by
          match ns, e2 with
          | [l, r], _ => exact ⟨l, r, rfl⟩
        subst e1
        refine sws_cons (sw_if (TW.to (c := true) (TV.cast (tv_cmp (ev_ix (ev_var 2 rfl) ev_int (x_tup rfl)) ev_str (by walk_at "op")) (decide_eq_true rfl)) ⟨fun _ => ?_, fun hc => (by cases hc)⟩))
        by_cases hb : 0 ≤ l ∧ l ≤ a - 1 ∧ 0 ≤ r ∧ r ≤ b' - 1
        · by_cases h40 : rs.length = 40
          · have eo2 : outL a b' (rs, came) z = ((rs, came), [rfS .many]) := by rw [eo]; rw [outD_come, if_pos hb, if_pos h40]; rfl
            refine sws_cons (sw_ret (ew_lstN (ews_cons (ew_callO G_text_of hr rfl (ews_cons (ew_methO G_come T.cl hr (ev_var 0 rfl) hm (hall_no _ _ _ _ (by decide +kernel)) (EWs.to (evs_cons (ev_ix (ev_var 2 rfl) ev_int (x_tup rfl)) (evs_cons (ev_ix (ev_var 2 rfl) ev_int (x_tup rfl)) evs_nil)) (come_full hH hw hb h40 ⟨true, WT.px .many, fun _ ea oe q hz hf => ?_, fun h => (by cases h)⟩))))))))
            exact sws_cons (sw_ret (ew_lstN (EWs.to (evs_cons (ev_callE G_word hr rfl (ev_var 3 rfl) hz hf ⟨.many, rfl, rfl⟩) evs_nil) ⟨by show 1 ≤ 1000; decide, fun q hq1 hq2 => ends .many eo2 q hq1 hq2⟩)))
          · have hl40 : rs.length < 40 := by have := hI.len; omega
            have eo2 : outL a b' (rs, came) z = ((comeR rs came l r, came + 1), [tellT (came, comeG rs l r)]) := by rw [eo]; rw [outD_come, if_pos hb, if_neg h40]
            refine sws_cons (sw_ret (ew_lstN (ews_cons (ew_callO G_text_of hr rfl (ews_cons (ew_methO G_come T.cl hr (ev_var 0 rfl) hm (hall_no _ _ _ _ (by decide +kernel)) (EWs.to (evs_cons (ev_ix (ev_var 2 rfl) ev_int (x_tup rfl)) (evs_cons (ev_ix (ev_var 2 rfl) ev_int (x_tup rfl)) evs_nil)) (come_call hH hw hl40 hb.1 hb.2.1 hb.2.2.1 hb.2.2.2 fun M2 p2 nq hp1 hp2 hH2 hn1 hn2 hnq kept => ews_nil (CallS.pure ⟨(came, comeG rs l r), .loc (.ref nq), rfl, .c hnq, gvb_come hI hc l r, rfl⟩ (ews_nil ⟨by show 1 ≤ 1000; decide, fun q hq1 hq2 => ?_⟩))))))))))
            refine hΦ _ p2 q ((hfr q).mpr hq2) (kept_none hH hH2 kept hq1) ?_ ?_ fun x c hx ex => um_old (kept x c hx ex) hq1
            · rw [eo2]; exact hH2.um hq1
            · rw [eo2]; exact um_same
        · have eo2 : outL a b' (rs, came) z = ((rs, came), [rfS .ends]) := by rw [eo]; rw [outD_come, if_neg hb]; rfl
          refine sws_cons (sw_ret (ew_lstN (ews_cons (ew_callO G_text_of hr rfl (ews_cons (ew_methO G_come T.cl hr (ev_var 0 rfl) hm (hall_no _ _ _ _ (by decide +kernel)) (EWs.to (evs_cons (ev_ix (ev_var 2 rfl) ev_int (x_tup rfl)) (evs_cons (ev_ix (ev_var 2 rfl) ev_int (x_tup rfl)) evs_nil)) (come_no hH hw hb ⟨true, WT.px .ends, fun _ ea oe q hz hf => ?_, fun h => (by cases h)⟩))))))))
          exact sws_cons (sw_ret (ew_lstN (EWs.to (evs_cons (ev_callE G_word hr rfl (ev_var 3 rfl) hz hf ⟨.ends, rfl, rfl⟩) evs_nil) ⟨by show 1 ≤ 1000; decide, fun q hq1 hq2 => ends .ends eo2 q hq1 hq2⟩)))
      · have e1 : c = ("go" : Str) := e1
        obtain ⟨n, rfl⟩ : ∃ n, ns = [n] := by
          match ns, e2 with
          | [n], _ => exact ⟨n, rfl⟩
        subst e1
        have hgc : ¬ (("go" : Str) = "come") := by decide +kernel
        refine sws_cons (sw_if (TW.to (c := false) (TV.cast (tv_cmp (ev_ix (ev_var 2 rfl) ev_int (x_tup rfl)) ev_str (by walk_at "op")) (decide_eq_false hgc)) ⟨fun hc => (by cases hc), fun _ => sws_nil ?_⟩))
        by_cases hk : n ∈ keys rs
        · have eo2 : outL a b' (rs, came) z = ((goR rs n, came), (goT rs n).map tellT) := by rw [eo]; rw [outD_go, if_pos hk]
          refine sws_cons (sw_ret (ew_lcN (own := [("told", 4)]) (js := [4]) (xs := goT rs n) (enc := encG) (t := fun _ => true) (f := fun p => .str (tellT p)) (g := fun p => [encG p]) rfl ND (blkOk_by (by dsimp only [L2.cxOf, PyProof.Rows.envOfC]; decide +kernel)) (iw_cell (ew_methO G_go T.cl hr (ev_var 0 rfl) hm (hall_no _ _ _ _ (by decide +kernel)) (EWs.to (evs_cons (ev_ix (ev_var 2 rfl) ev_int (x_tup rfl)) evs_nil) (go_call hH hw hk fun M2 p2 tq hp1 hp2 hH2 ht1 ht2 htq kept => ⟨tq, _, rfl, htq, rfl, ?_, fun M3 hs => hs _ _ htq, fun x hx _ _ _ _ _ => gs_name 4 ND, fun x hx M3 hs => turn0 rfl fun _ _ _ _ _ => ev_callO G_text_of hr rfl (evs_cons (ev_var 4 rfl) evs_nil) ⟨x, .lst (x.2.ns.map D.int), rfl, .l, gvb_go hI hc x hx, rfl⟩, fun q hq1 hq2 => ?_⟩))))))
          · have := goT_len (n := n) hI; omega
          · rw [filter_all (fun _ => rfl)]
            refine hΦ _ p2 q ((hfr q).mpr hq2) (kept_none hH hH2 kept hq1) ?_ ?_ fun x c hx ex => um_old (kept x c hx ex) hq1
            · rw [eo2]; exact hH2.um hq1
            · rw [eo2, um_same, List.map_map]; rfl
        · have eo2 : outL a b' (rs, came) z = ((rs, came), [rfS .pair]) := by rw [eo]; rw [outD_go, if_neg hk]; rfl
          refine sws_cons (sw_ret (ew_lcN (own := [("told", 4)]) (js := [4]) (xs := ([] : List (Int × Gv))) (enc := encG) (t := fun _ => true) (f := fun p => .str (tellT p)) (g := fun p => [encG p]) rfl ND (blkOk_by (by dsimp only [L2.cxOf, PyProof.Rows.envOfC]; decide +kernel)) (iw_cell (ew_methO G_go T.cl hr (ev_var 0 rfl) hm (hall_no _ _ _ _ (by decide +kernel)) (EWs.to (evs_cons (ev_ix (ev_var 2 rfl) ev_int (x_tup rfl)) evs_nil) (go_no hH hw hk ⟨true, WT.px .pair, fun _ ea oe q hz hf => ?_, fun h => (by cases h)⟩))))))
          exact sws_cons (sw_ret (ew_lstN (EWs.to (evs_cons (ev_callE G_word hr rfl (ev_var 3 rfl) hz hf ⟨.pair, rfl, rfl⟩) evs_nil) ⟨by show 1 ≤ 1000; decide, fun q hq1 hq2 => ends .pair eo2 q hq1 hq2⟩)))
end
end Ph
end

section
set_option maxRecDepth 100000
set_option maxHeartbeats 4000000
/-! D6n: a list of lists of texts that are cells of their own. -/
namespace D4
open PySem L2
def txD (ts : List Str) : D := .lst (ts.map D.str)
def locD (q : Addr) : D := .loc (.ref q)
def CellsOf (M : Mp) (qs : List Addr) (tss : List (List Str)) : Prop := qs.length = tss.length ∧ ∀ (i : Nat) (q : Addr) (ts : List Str), qs[i]? = some q → tss[i]? = some ts → M q = some (.lst (ts.map D.str))
theorem CellsOf.nil {M : Mp} : CellsOf M [] [] := ⟨rfl, fun i q ts h => by simp at h⟩
theorem CellsOf.keep {M M' : Mp} {qs : List Addr} {tss : List (List Str)} (h : CellsOf M qs tss) (k : ∀ q ∈ qs, ∀ c, M q = some c → M' q = some c) : CellsOf M' qs tss :=
  ⟨h.1, fun i q ts h1 h2 => k q (List.mem_of_getElem? h1) _ (h.2 i q ts h1 h2)⟩
theorem CellsOf.get {M : Mp} {qs : List Addr} {tss : List (List Str)} (h : CellsOf M qs tss) {i : Nat} {q : Addr} (hq : qs[i]? = some q) : ∃ ts, tss[i]? = some ts ∧ M q = some (.lst (ts.map D.str)) := by
  have hi := (List.getElem?_eq_some_iff.mp hq).1
  have hi2 : i < tss.length := by rw [← h.1]; exact hi
  exact ⟨tss[i], List.getElem?_eq_getElem hi2, h.2 i q _ hq (List.getElem?_eq_getElem hi2)⟩
theorem CellsOf.mem {M : Mp} {qs : List Addr} {tss : List (List Str)} (h : CellsOf M qs tss) {q : Addr} (hq : q ∈ qs) : ∃ ts ∈ tss, M q = some (.lst (ts.map D.str)) := by
  obtain ⟨i, hi, e⟩ := List.mem_iff_getElem.mp hq
  obtain ⟨ts, h1, h2⟩ := h.get (i := i) (q := q) (by rw [List.getElem?_eq_getElem hi, e])
  exact ⟨ts, List.mem_of_getElem? h1, h2⟩
theorem CellsOf.snoc {M : Mp} {qs : List Addr} {tss : List (List Str)} (h : CellsOf M qs tss) {q : Addr} {ts : List Str} (hq : M q = some (.lst (ts.map D.str))) : CellsOf M (qs ++ [q]) (tss ++ [ts]) := by
  refine ⟨by rw [List.length_append, List.length_append, h.1]; rfl, fun i q' ts' h1 h2 => ?_⟩
  by_cases hi : i < qs.length
  · rw [List.getElem?_append_left hi] at h1
    rw [List.getElem?_append_left (by rw [← h.1]; exact hi)] at h2
    exact h.2 i q' ts' h1 h2
  · rw [List.getElem?_append_right (by omega)] at h1
    rw [List.getElem?_append_right (by rw [← h.1]; omega), ← h.1] at h2
    cases e : i - qs.length with
    | zero =>
      rw [e] at h1 h2
      cases h1; cases h2
      exact hq
    | succ n => rw [e] at h1; simp at h1
theorem okDs_strs : ∀ {ts : List Str}, (∀ t ∈ ts, PyData.strOk t = true) → okDs (ts.map D.str) = true
  | [], _ => rfl
  | t :: ts, h => by simp only [List.map_cons, okDs, okD, h t List.mem_cons_self, okDs_strs fun x hx => h x (List.mem_cons_of_mem _ hx), Bool.and_self]
theorem depDs_strs : ∀ ts : List Str, depDs (ts.map D.str) = 0
  | [] => rfl
  | t :: ts => by simp only [List.map_cons, depDs, depD, depDs_strs ts, Nat.max_self]
theorem okd_txs {tss : List (List Str)} (h : ∀ ts ∈ tss, ∀ t ∈ ts, PyData.strOk t = true) : Okd (.lst (tss.map txD)) := Okd.lst fun d hd => by
  obtain ⟨ts, hts, rfl⟩ := List.mem_map.mp hd
  unfold txD
  refine ⟨?_, ?_⟩
  · simp only [okD]; exact okDs_strs (h ts hts)
  · simp only [depD, depDs_strs]; decide
theorem okd_strs {ts : List Str} (h : ∀ t ∈ ts, PyData.strOk t = true) : Okd (.lst (ts.map D.str)) := ⟨by simp only [okD]; exact okDs_strs h, by simp only [depD, depDs_strs]; decide⟩
theorem cells_dp {K : Fg} {b : Bs} {M : Mp} {G H : Hp} (S : SO K b M G H) : ∀ {tss : List (List Str)} {qs : List Addr} {vs : List V}, CellsOf M qs tss → (∀ ts ∈ tss, ∀ t ∈ ts, PyData.strOk t = true) → Reps K G (qs.map locD) vs → DpAll K H vs (toPys (tss.map txD))
  | [], [], vs, _, _, r => by rw [r.nil_inv]; exact .nil
  | [], q :: qs, vs, h, _, _ => by cases h.1
  | ts :: tss, [], vs, h, _, _ => by cases h.1
  | ts :: tss, q :: qs, vs, h, ok, r => by
    obtain ⟨v, r', rfl, h1, t⟩ := r.cons_inv
    have hm := h.2 0 q ts rfl rfl
    obtain ⟨_, ob, ho, us, rfl, rs⟩ := S.cel q _ hm
    have ev : v = .ref q := Rep.loc_iff.mp h1
    subst ev
    show DpAll K H (.ref q :: r') (toPy (txD ts) :: toPys (tss.map txD))
    refine .cons ?_ (cells_dp S ⟨Nat.succ.inj h.1, fun i q' ts' e1 e2 => h.2 (i + 1) q' ts' e1 e2⟩ (fun x hx => ok x (List.mem_cons_of_mem _ hx)) t)
    unfold txD
    simp only [toPy]
    exact .lst (SqL.of ho) (Reps.dp S.gh _ us (okDs_strs (ok ts List.mem_cons_self)) rs)
section
variable {X : Cx} {b : Bs} {M : Mp}
theorem o_neCells {qs : List Addr} {tss : List (List Str)} (hu : X.A.units + 64 < cLine) (h : CellsOf M qs tss) (ok : ∀ ts ∈ tss, ∀ t ∈ ts, PyData.strOk t = true) : OW X b (compareOp .NotEq) M (.lst (qs.map locD)) (.lst (tss.map txD)) (One M (.bl false)) := by
  have o2 := okd_txs ok
  have e : (!deq (.lst (tss.map txD)) (.lst (tss.map txD))) = false := by rw [deq_refl o2.1]; rfl
  rw [← e]
  refine ow_of (op_neD hu) fun R mR x y H G Q S z r1 r2 k => ?_
  obtain ⟨a, vs, rfl, ha, rs⟩ := Rep.lst_iff.mp r1
  exact ⟨toPy (.lst (tss.map txD)), _, by simp only [toPy]; exact .lst (SqL.of (S.gh _ _ ha)) (cells_dp S h ok rs), r2.dp S.gh _ _ o2.1, o2.shaped, o2.shaped, k _ _ _ H ⟨rfl, rfl⟩ ⟨G, S, z, Rep.bl_iff.mpr rfl⟩⟩
end
end D4
end

section
set_option maxRecDepth 100000
set_option maxHeartbeats 4000000
set_option pp.maxSteps 600
open PySem L2 D4
local macro_rules | `(tactic| walk_at "op") => `(tactic| first
  | exact o_add | exact o_sub | exact o_mul (Or.inr ⟨by decide, by decide⟩) | exact o_mul (Or.inl ⟨by decide, by decide⟩) | exact o_div ⟨by decide, by decide⟩ | exact o_mod (by decide) | exact o_lt | exact o_le | exact o_gt | exact o_ge
  | exact o_eqI | exact o_neI | exact o_eqS | exact o_neS | exact o_eqB | exact o_neB | exact o_isN | exact o_notN)
local macro_rules | `(tactic| walk_at "la") => `(tactic| first | exact LA.l | exact LA.c (by assumption) | exact LA.c um_same | exact LA.c (by walk_at "m"))
local macro_rules | `(tactic| walk_at "ix") => `(tactic| first | exact x_tup rfl | exact x_tup (by assumption) | exact x_scr (by assumption) | exact x_la (by walk_at "la") (by assumption) | exact x_la (by walk_at "la") rfl)
local macro_rules | `(tactic| walk_at "m") => `(tactic| first | assumption | exact um_same | exact um_old (by assumption) (by assumption))
local macro_rules | `(tactic| walk_at "w") => `(tactic| first | assumption | exact Nw.wr (by assumption) | exact Or.inl (by assumption))
local macro_rules | `(tactic| walk_at "dk") => `(tactic| first | exact Or.inl (by walk_at "m") | exact Or.inr ⟨_, _, by walk_at "m"⟩)
local macro_rules | `(tactic| walk_at "key") => `(tactic| first | exact IsKey.i (by walk_at "dk") | exact IsKey.t (by walk_at "m"))
local macro_rules | `(tactic| walk_at "ty") => `(tactic| first | exact TyD.int | exact TyD.bl | exact TyD.str | exact TyD.lst | exact TyD.tup | exact TyD.non | exact TyD.cl (by walk_at "m") | exact TyD.cd (by walk_at "m"))
local macro_rules | `(tactic| walk_at "call") => `(tactic| first
  | exact c_lenA (by walk_at "la") | exact c_len_scr | exact c_len_tup | exact c_len_dk (by walk_at "dk") | exact c_isi (c := true) (by walk_at "ty") | exact c_isi (c := false) (by walk_at "ty")
  | exact c_int_bl | exact c_all rfl | exact c_list_lst | exact c_tuple_lst | exact c_max2 rfl | exact c_min2 rfl)

namespace Ph
open PySem L2 D4 K8
section
variable {P : Program} {w : World} {K : Fg} {mg : Str → Option Value} {base : Heap}
/-! lines played in a new hall -/
def S_play (C : Addr) : FSp := fun _ fr M ds Φ _ => ∃ (a b : Int) (zs : List Str), ds = [.int a, .int b, .lst (zs.map D.str)] ∧ 1 ≤ a ∧ a ≤ 8 ∧ 1 ≤ b ∧ b ≤ 8 ∧ zs.length ≤ 500 ∧ (∀ z ∈ zs, z.length ≤ 100000) ∧
  ∀ M' qs, Sub M M' → CellsOf M' qs (runL a b ([], 0) zs).2 → (∀ q ∈ qs, M q = none ∧ fr q) → qs.Nodup → Φ M' (.lst (qs.map locD))
/-- the hall so far -/
structure PlayI (C : Addr) (b : Bs) (M M' : Mp) (Dl h : Addr) (a b' : Int) (zs : List Str) (i : Nat) (acc : List D) (p' : Addr) (qs : List Addr) : Prop where
  hall : HallAt C M' h p' a b' (runL a b' ([], 0) (zs.take i)).1.2 (runL a b' ([], 0) (zs.take i)).1.1
  acc : acc = qs.map locD
  cells : CellsOf M' qs (runL a b' ([], 0) (zs.take i)).2
  new : ∀ q ∈ qs, M q = none ∧ Nw b q ∧ q ≠ Dl
  nd : qs.Nodup
  sub : Sub M M'
  came : (runL a b' ([], 0) (zs.take i)).1.2 ≤ (i : Nat)
theorem runL_at {a b : Int} {zs : List Str} {i : Nat} {z : Str} (h : zs[i]? = some z) : runL a b ([], 0) (zs.take (i + 1)) = ((outL a b (runL a b ([], 0) (zs.take i)).1 z).1, (runL a b ([], 0) (zs.take i)).2 ++ [(outL a b (runL a b ([], 0) (zs.take i)).1 z).2]) := by
  rw [take_snoc h, runL_snoc]
theorem ok_play {C : Addr} {er : Er → Addr} (F : FdOk K mg "play" ["lefts", "rights", "lines"] s_play) (T : HallT K mg C) (G_init : OkM P w K mg base C "__init__" ["self", "lefts", "rights"] 2 (S_init C er)) (G_done : OkF P w K mg base "done" ["hall", "line"] 7 (S_done C)) : OkF P w K mg base "play" ["lefts", "rights", "lines"] 8 (S_play C) := by
  refine fnO F sc_play (fun own fr M ds Φ Ψ h => ?_) (fun f cdv A outer s H E hr b M ds Φ Ψ fr hfr h => ?_)
  · obtain ⟨a, b, zs, rfl, _⟩ := h
    rfl
  · obtain ⟨a, b', zs, rfl, ha1, ha2, hb1, hb2, hzl, hz, hΦ⟩ := h
    have ND := sc_play.nd
    refine sws_cons (sw_set 3 (ew_mkO T.mkC T.kpC G_init hr rfl T.g (EWs.to (evs_cons (ev_var 0 rfl) (evs_cons (ev_var 1 rfl) evs_nil)) fun h dx hh1 hh2 => new_call hh1 hh2 ha1 ha2 hb1 hb2 fun M1 p hp1 hp2 hH hk => ?_)) ND)
    have hsub1 : Sub M M1 := fun x c e => hk x c e
    refine sws_cons (sw_ret (ew_lcI (own := [("line", 4)]) (js := [4]) rfl ND (blkOk_by (by dsimp only [L2.cxOf, PyProof.Rows.envOfC]; decide +kernel)) (lci_la (xs := zs.map D.str) (fun Dl i acc M' => M' Dl = some (.lst acc) ∧ M1 Dl = none ∧ ∃ p' qs, PlayI C b M M' Dl h a b' zs i acc p' qs) (ev_var 2 rfl) .l (by rw [List.length_map]; omega)
      (fun Dl hD1 hD2 => ⟨um_same, hD1, p, [], hH.um hD1, rfl, .nil, fun q hq => (by cases hq), List.nodup_nil, fun x c e => um_old (hsub1 x c e) hD1, Int.le_refl _⟩)
      (fun Dl i acc M' ⟨e1, _, p', qs, I⟩ => ⟨e1, .l, ?_⟩) (fun Dl i d acc M' hDn hd ⟨e1, hD1, p', qs, I⟩ => ⟨[d], fun _ _ _ _ _ => gs_name 4 ND, fun s' H' Cc cl fp => ?_⟩) (fun Dl acc M' hDn ⟨e1, hD1, p', qs, I⟩ => ⟨e1, ?_⟩))))
    · have h1 := I.cells.1
      rw [runL_len, List.length_take] at h1
      rw [I.acc, List.length_map]
      omega
    · rw [List.getElem?_map] at hd
      cases hzi : zs[i]? with
      | none => rw [hzi] at hd; cases hd
      | some z =>
        rw [hzi] at hd
        cases hd
        have hil := (List.getElem?_eq_some_iff.mp hzi).1
        have hc := I.came
        obtain ⟨⟨dx', hm, hp'⟩, hI⟩ := id I.hall
        have hDh : Dl ≠ h := ne_cell e1 hm (fun e => by cases e)
        have hMD : M Dl = none := by
          cases e : M Dl with
          | none => rfl
          | some c => rw [hsub1 _ _ e] at hD1; cases hD1
        refine ew_callO G_done hr rfl (EWs.to (evs_cons (ev_var 3 rfl) (evs_cons (ev_var 4 rfl) evs_nil)) ⟨fun y => y = h, fun y e => (by subst e; exact .inl hh2), fun fr' hf => ⟨h, p', a, b', _, _, z, rfl, I.hall, rfl, by omega, hz z (List.mem_of_getElem? hzi), fun M3 p3 q hq1 hq2 hH3 hq3 kept => ?_⟩⟩)
        have hD3 := kept Dl _ hDh e1
        have hqD : q ≠ Dl := fun e => by rw [e, e1] at hq2; cases hq2
        have hMq : M q = none := by
          cases e : M q with
          | none => rfl
          | some c => rw [I.sub _ _ e] at hq2; cases hq2
        have hqs : q ∉ qs := fun hm' => by
          obtain ⟨ts, _, e⟩ := I.cells.mem hm'
          rw [hq2] at e; cases e
        have ec := (outL_ok (a := a) (b := b') hI (by omega) z).came
        refine ⟨hD3, um_same, hD1, p3, qs ++ [q], ?_, ?_, ?_, ?_, ?_, ?_, ?_⟩
        · rw [runL_at hzi]; exact hH3.set hD3
        · rw [I.acc, List.map_append]; rfl
        · rw [runL_at hzi]
          refine CellsOf.snoc (I.cells.keep fun q' hq' c e => ?_) ?_
          · rw [um_ne (I.new q' hq').2.2]
            refine kept q' c (fun e2 => ?_) e
            obtain ⟨ts, _, e3⟩ := I.cells.mem hq'
            rw [e2, hm] at e3; cases e3
          · rw [um_ne hqD]; exact hq3
        · intro q' hq'
          rcases List.mem_append.mp hq' with hq' | hq'
          · exact I.new q' hq'
          · rw [List.mem_singleton.mp hq']
            exact ⟨hMq, (hf q hq1).2, hqD⟩
        · rw [List.nodup_append]
          refine ⟨I.nd, by simp, ?_⟩
          rintro x hx y hy rfl
          rw [List.mem_singleton.mp hy] at hx
          exact hqs hx
        · intro x c e
          rw [um_ne (fun e2 => by rw [e2, hMD] at e; cases e)]
          exact kept x c (fun e2 => by rw [e2, hh1] at e; cases e) (I.sub x c e)
        · rw [runL_at hzi]
          have ec : (outL a b' (runL a b' ([], 0) (zs.take i)).1 z).1.2 = (runL a b' ([], 0) (zs.take i)).1.2 ∨ (outL a b' (runL a b' ([], 0) (zs.take i)).1 z).1.2 = (runL a b' ([], 0) (zs.take i)).1.2 + 1 := ec
          show (outL a b' (runL a b' ([], 0) (zs.take i)).1 z).1.2 ≤ _
          omega
    · rw [I.acc]
      have ht : zs.take (zs.map D.str).length = zs := by rw [List.length_map, List.take_length]
      have hMD : M Dl = none := by
        cases e : M Dl with
        | none => rfl
        | some c => rw [hsub1 _ _ e] at hD1; cases hD1
      refine hΦ _ qs (fun x c e => ?_) ?_ (fun q hq => ⟨(I.new q hq).1, (hfr q).mpr (I.new q hq).2.1⟩) I.nd
      · rw [dm_ne (fun e2 => by rw [e2, hMD] at e; cases e)]
        exact I.sub x c e
      · have := I.cells
        rw [ht] at this
        exact this.keep fun q hq c e => by rw [dm_ne (I.new q hq).2.2]; exact e
end
end Ph
end

section
set_option maxRecDepth 100000
set_option maxHeartbeats 4000000
set_option pp.maxSteps 600
open PySem L2 D4
local macro_rules | `(tactic| walk_at "op") => `(tactic| first
  | exact o_add | exact o_sub | exact o_mul (Or.inr ⟨by decide, by decide⟩) | exact o_mul (Or.inl ⟨by decide, by decide⟩) | exact o_div ⟨by decide, by decide⟩ | exact o_mod (by decide) | exact o_lt | exact o_le | exact o_gt | exact o_ge
  | exact o_eqI | exact o_neI | exact o_eqS | exact o_neS | exact o_eqB | exact o_neB | exact o_isN | exact o_notN)
local macro_rules | `(tactic| walk_at "la") => `(tactic| first | exact LA.l | exact LA.c (by assumption) | exact LA.c um_same | exact LA.c (by walk_at "m"))
local macro_rules | `(tactic| walk_at "ix") => `(tactic| first | exact x_tup rfl | exact x_tup (by assumption) | exact x_scr (by assumption) | exact x_la (by walk_at "la") (by assumption) | exact x_la (by walk_at "la") rfl)
local macro_rules | `(tactic| walk_at "m") => `(tactic| first | assumption | exact um_same | exact um_old (by assumption) (by assumption))
local macro_rules | `(tactic| walk_at "w") => `(tactic| first | assumption | exact Nw.wr (by assumption) | exact Or.inl (by assumption))
local macro_rules | `(tactic| walk_at "dk") => `(tactic| first | exact Or.inl (by walk_at "m") | exact Or.inr ⟨_, _, by walk_at "m"⟩)
local macro_rules | `(tactic| walk_at "key") => `(tactic| first | exact IsKey.i (by walk_at "dk") | exact IsKey.t (by walk_at "m"))
local macro_rules | `(tactic| walk_at "ty") => `(tactic| first | exact TyD.int | exact TyD.bl | exact TyD.str | exact TyD.lst | exact TyD.tup | exact TyD.non | exact TyD.cl (by walk_at "m") | exact TyD.cd (by walk_at "m"))
local macro_rules | `(tactic| walk_at "call") => `(tactic| first
  | exact c_lenA (by walk_at "la") | exact c_len_scr | exact c_len_tup | exact c_len_dk (by walk_at "dk") | exact c_isi (c := true) (by walk_at "ty") | exact c_isi (c := false) (by walk_at "ty")
  | exact c_int_bl | exact c_all rfl | exact c_list_lst | exact c_tuple_lst | exact c_max2 rfl | exact c_min2 rfl)

namespace Ph
open PySem L2 D4 K8
section
variable {P : Program} {w : World} {K : Fg} {mg : Str → Option Value} {base : Heap}
/-! law k11: what a hall answers -/
theorem o_rep1 {X : Cx} {b : Bs} {M : Mp} {c : Bool} {t : Str} : OW X b (binaryOp .Mult) M (.lst [.str t]) (.int (if c then 1 else 0)) (One M (.lst (if c then [.str t] else []))) := by
  cases c with
  | true => exact (o_rep LA.l (by decide) (by decide) (by show 1 * 1 ≤ 100000; decide)).imp fun M' d h => by obtain ⟨rfl, rfl⟩ := h; exact ⟨rfl, rfl⟩
  | false => exact (o_rep LA.l (by decide) (by decide) (by show 1 * 0 ≤ 100000; decide)).imp fun M' d h => by obtain ⟨rfl, rfl⟩ := h; exact ⟨rfl, rfl⟩
def S_answer (C : Addr) : FSp := fun own _ M ds Φ _ => ∃ (h p : Addr) (a b came : Int) (rs : Rows) (c : Str) (ms : List Int), ds = [.loc (.ref h), .tup (.str c :: ms.map D.int)] ∧ HallAt C M h p a b came rs ∧ own h ∧ came ≤ 1000 ∧ DeedOk c ms ∧
  ∀ M' p', HallAt C M' h p' a b (outD a b (rs, came) c ms).1.2 (outD a b (rs, came) c ms).1.1 → Kept h M M' → Φ M' (txD (outD a b (rs, came) c ms).2)
theorem ok_answer {C : Addr} {er : Er → Addr} {pe ln : Addr} (F : FdOk K mg "_law_answer" ["_law_hall", "_law_deed_here"] s_law_answer) (T : HallT K mg C) (WT : WordT K er pe ln) (G_law_text : OkF P w K mg base "_law_text" ["_law_told"] 1 S_text_of) (G_come : OkM P w K mg base C "come" ["self", "left", "right"] 6 (S_come C er)) (G_go : OkM P w K mg base C "go" ["self", "number"] 6 (S_go C er)) (X_ends : XcF K mg "BadEnd" (er .ends)) (X_many : XcF K mg "TooMany" (er .many)) (X_pair : XcF K mg "NoPair" (er .pair)) (g_PE : mg "PairError" = some (.ref pe))
    (n_isinstance : mg "isinstance" = none) (n_int : mg "int" = none) : OkF P w K mg base "_law_answer" ["_law_hall", "_law_deed_here"] 7 (S_answer C) := by
  refine fnO F sc_law_answer (fun own fr M ds Φ Ψ h => ?_) (fun f cdv A outer s H E hr b M ds Φ Ψ fr hfr h => ?_)
  · obtain ⟨h, p, a, b, came, rs, c, ms, rfl, _⟩ := h
    rfl
  · obtain ⟨h, p, a, b', came, rs, c, ns, rfl, hH, hown, hc, hd, hΦ⟩ := h
    have ND := sc_law_answer.nd
    have hw : Wr b h := .inr hown
    obtain ⟨⟨dx, hm, hp⟩, hI⟩ := id hH
    refine sws_cons (sw_try_as 2 (c := .ref pe) ⟨rfl, by decide, .inl g_PE⟩ ND fun pn xe pa => ?_)
    have ends : ∀ (r : Rf), outD a b' (rs, came) c ns = ((rs, came), [rfS r]) → Φ M (txD [rfS r]) := fun r e => by
      have := hΦ M p (by rw [e]; exact hH) fun x c hx ex => ex
      rw [e] at this
      exact this
    rcases hd.1 with ⟨e1, e2⟩ | ⟨e1, e2⟩
    · obtain ⟨l, r, rfl⟩ : ∃ l r, ns = [l, r] := by
        match ns, e2 with
        | [l, r], _ => exact ⟨l, r, rfl⟩
      subst e1
      refine sws_cons (sw_if (TW.to (c := true) (TV.cast (tv_cmp (ev_ix (ev_var 1 rfl) ev_int (x_tup rfl)) ev_str (by walk_at "op")) (decide_eq_true rfl)) ⟨fun _ => ?_, fun hc => (by cases hc)⟩))
      by_cases hb : 0 ≤ l ∧ l ≤ a - 1 ∧ 0 ≤ r ∧ r ≤ b' - 1
      · by_cases h40 : rs.length = 40
        · have eo2 : outD a b' (rs, came) "come" [l, r] = ((rs, came), [rfS .many]) := by rw [outD_come, if_pos hb, if_pos h40]; rfl
          refine sws_cons (sw_ret (ew_lst (ews_cons (ew_callO G_law_text hr rfl (ews_cons (ew_methO G_come T.cl hr (ev_var 0 rfl) hm (hall_no _ _ _ _ (by decide +kernel)) (EWs.to (evs_cons (ev_ix (ev_var 1 rfl) ev_int (x_tup rfl)) (evs_cons (ev_ix (ev_var 1 rfl) ev_int (x_tup rfl)) evs_nil)) (come_full hH hw hb h40 ⟨true, WT.px .many, fun _ ea oe q hz hf => ?_, fun h => (by cases h)⟩))))))))
          refine sws_cons (sw_set 3 (EW.to (ev_bin (ev_bin (ev_lst (evs_cons ev_str evs_nil)) (ev_ct rfl n_int b_int (evs_cons (ev_cb rfl n_isinstance b_isinstance (evs_cons (ev_var 2 rfl) (evs_cons (ev_glob (v := .ref (er .ends)) rfl X_ends.g rfl fun _ => Rep.loc_iff.mpr rfl) evs_nil)) (c_isE' (WT.xc .many) hz hf (fun u r => r) (WT.k0 .many))) evs_nil) c_int_bl) o_rep1) (ev_bin (ev_lst (evs_cons ev_str evs_nil)) (ev_ct rfl n_int b_int (evs_cons (ev_cb rfl n_isinstance b_isinstance (evs_cons (ev_var 2 rfl) (evs_cons (ev_glob (v := .ref (er .many)) rfl X_many.g rfl fun _ => Rep.loc_iff.mpr rfl) evs_nil)) (c_isE' (WT.xc .many) hz hf (fun u r => r) (WT.k1 .many))) evs_nil) c_int_bl) o_rep1) (o_cat LA.l LA.l (by decide))) ?_) ND)
          exact sws_cons (sw_ret (EW.to (EV.cast (d' := txD [rfS .many]) (ev_bin (ev_var 3 rfl) (ev_bin (ev_lst (evs_cons ev_str evs_nil)) (ev_ct rfl n_int b_int (evs_cons (ev_cb rfl n_isinstance b_isinstance (evs_cons (ev_var 2 rfl) (evs_cons (ev_glob (v := .ref (er .pair)) rfl X_pair.g rfl fun _ => Rep.loc_iff.mpr rfl) evs_nil)) (c_isE' (WT.xc .many) hz hf (fun u r => r) (WT.k2 .many))) evs_nil) c_int_bl) o_rep1) (o_cat LA.l LA.l (by decide))) rfl) (ends .many eo2)))
        · have hl40 : rs.length < 40 := by have := hI.len; omega
          have eo2 : outD a b' (rs, came) "come" [l, r] = ((comeR rs came l r, came + 1), [tellT (came, comeG rs l r)]) := by rw [outD_come, if_pos hb, if_neg h40]
          refine sws_cons (sw_ret (ew_lst (ews_cons (ew_callO G_law_text hr rfl (ews_cons (ew_methO G_come T.cl hr (ev_var 0 rfl) hm (hall_no _ _ _ _ (by decide +kernel)) (EWs.to (evs_cons (ev_ix (ev_var 1 rfl) ev_int (x_tup rfl)) (evs_cons (ev_ix (ev_var 1 rfl) ev_int (x_tup rfl)) evs_nil)) (come_call hH hw hl40 hb.1 hb.2.1 hb.2.2.1 hb.2.2.2 fun M2 p2 nq hp1 hp2 hH2 hn1 hn2 hnq kept => ews_nil (CallS.pure ⟨(came, comeG rs l r), .loc (.ref nq), rfl, .c hnq, gvb_come hI hc l r, rfl⟩ (ews_nil ⟨by show 1 ≤ 1000; decide, ?_⟩))))))))))
          have := hΦ M2 p2 (by rw [eo2]; exact hH2) kept
          rw [eo2] at this
          exact this
      · have eo2 : outD a b' (rs, came) "come" [l, r] = ((rs, came), [rfS .ends]) := by rw [outD_come, if_neg hb]; rfl
        refine sws_cons (sw_ret (ew_lst (ews_cons (ew_callO G_law_text hr rfl (ews_cons (ew_methO G_come T.cl hr (ev_var 0 rfl) hm (hall_no _ _ _ _ (by decide +kernel)) (EWs.to (evs_cons (ev_ix (ev_var 1 rfl) ev_int (x_tup rfl)) (evs_cons (ev_ix (ev_var 1 rfl) ev_int (x_tup rfl)) evs_nil)) (come_no hH hw hb ⟨true, WT.px .ends, fun _ ea oe q hz hf => ?_, fun h => (by cases h)⟩))))))))
        refine sws_cons (sw_set 3 (EW.to (ev_bin (ev_bin (ev_lst (evs_cons ev_str evs_nil)) (ev_ct rfl n_int b_int (evs_cons (ev_cb rfl n_isinstance b_isinstance (evs_cons (ev_var 2 rfl) (evs_cons (ev_glob (v := .ref (er .ends)) rfl X_ends.g rfl fun _ => Rep.loc_iff.mpr rfl) evs_nil)) (c_isE' (WT.xc .ends) hz hf (fun u r => r) (WT.k0 .ends))) evs_nil) c_int_bl) o_rep1) (ev_bin (ev_lst (evs_cons ev_str evs_nil)) (ev_ct rfl n_int b_int (evs_cons (ev_cb rfl n_isinstance b_isinstance (evs_cons (ev_var 2 rfl) (evs_cons (ev_glob (v := .ref (er .many)) rfl X_many.g rfl fun _ => Rep.loc_iff.mpr rfl) evs_nil)) (c_isE' (WT.xc .ends) hz hf (fun u r => r) (WT.k1 .ends))) evs_nil) c_int_bl) o_rep1) (o_cat LA.l LA.l (by decide))) ?_) ND)
        exact sws_cons (sw_ret (EW.to (EV.cast (d' := txD [rfS .ends]) (ev_bin (ev_var 3 rfl) (ev_bin (ev_lst (evs_cons ev_str evs_nil)) (ev_ct rfl n_int b_int (evs_cons (ev_cb rfl n_isinstance b_isinstance (evs_cons (ev_var 2 rfl) (evs_cons (ev_glob (v := .ref (er .pair)) rfl X_pair.g rfl fun _ => Rep.loc_iff.mpr rfl) evs_nil)) (c_isE' (WT.xc .ends) hz hf (fun u r => r) (WT.k2 .ends))) evs_nil) c_int_bl) o_rep1) (o_cat LA.l LA.l (by decide))) rfl) (ends .ends eo2)))
    · obtain ⟨n, rfl⟩ : ∃ n, ns = [n] := by
        match ns, e2 with
        | [n], _ => exact ⟨n, rfl⟩
      subst e1
      have hgc : ¬ (("go" : Str) = "come") := by decide +kernel
      refine sws_cons (sw_if (TW.to (c := false) (TV.cast (tv_cmp (ev_ix (ev_var 1 rfl) ev_int (x_tup rfl)) ev_str (by walk_at "op")) (decide_eq_false hgc)) ⟨fun hc => (by cases hc), fun _ => sws_nil ?_⟩))
      by_cases hk : n ∈ keys rs
      · have eo2 : outD a b' (rs, came) "go" [n] = ((goR rs n, came), (goT rs n).map tellT) := by rw [outD_go, if_pos hk]
        refine sws_cons (sw_ret (ew_lc (own := [("_law_told", 4)]) (js := [4]) (xs := goT rs n) (enc := encG) (t := fun _ => true) (f := fun p => .str (tellT p)) (g := fun p => [encG p]) rfl ND (blkOk_by (by dsimp only [L2.cxOf, PyProof.Rows.envOfC]; decide +kernel)) (iw_cell (ew_methO G_go T.cl hr (ev_var 0 rfl) hm (hall_no _ _ _ _ (by decide +kernel)) (EWs.to (evs_cons (ev_ix (ev_var 1 rfl) ev_int (x_tup rfl)) evs_nil) (go_call hH hw hk fun M2 p2 tq hp1 hp2 hH2 ht1 ht2 htq kept => ⟨tq, _, rfl, htq, rfl, ?_, fun M3 hs => hs _ _ htq, fun x hx _ _ _ _ _ => gs_name 4 ND, fun x hx M3 hs => turn0 rfl fun _ _ _ _ _ => ev_callO G_law_text hr rfl (evs_cons (ev_var 4 rfl) evs_nil) ⟨x, .lst (x.2.ns.map D.int), rfl, .l, gvb_go hI hc x hx, rfl⟩, ?_⟩))))))
        · have := goT_len (n := n) hI; omega
        · rw [filter_all (fun _ => rfl)]
          have := hΦ M2 p2 (by rw [eo2]; exact hH2) kept
          rw [eo2] at this
          unfold txD at this
          rw [List.map_map] at this
          exact this
      · have eo2 : outD a b' (rs, came) "go" [n] = ((rs, came), [rfS .pair]) := by rw [outD_go, if_neg hk]; rfl
        refine sws_cons (sw_ret (ew_lc (own := [("_law_told", 4)]) (js := [4]) (xs := ([] : List (Int × Gv))) (enc := encG) (t := fun _ => true) (f := fun p => .str (tellT p)) (g := fun p => [encG p]) rfl ND (blkOk_by (by dsimp only [L2.cxOf, PyProof.Rows.envOfC]; decide +kernel)) (iw_cell (ew_methO G_go T.cl hr (ev_var 0 rfl) hm (hall_no _ _ _ _ (by decide +kernel)) (EWs.to (evs_cons (ev_ix (ev_var 1 rfl) ev_int (x_tup rfl)) evs_nil) (go_no hH hw hk ⟨true, WT.px .pair, fun _ ea oe q hz hf => ?_, fun h => (by cases h)⟩))))))
        refine sws_cons (sw_set 3 (EW.to (ev_bin (ev_bin (ev_lst (evs_cons ev_str evs_nil)) (ev_ct rfl n_int b_int (evs_cons (ev_cb rfl n_isinstance b_isinstance (evs_cons (ev_var 2 rfl) (evs_cons (ev_glob (v := .ref (er .ends)) rfl X_ends.g rfl fun _ => Rep.loc_iff.mpr rfl) evs_nil)) (c_isE' (WT.xc .pair) hz hf (fun u r => r) (WT.k0 .pair))) evs_nil) c_int_bl) o_rep1) (ev_bin (ev_lst (evs_cons ev_str evs_nil)) (ev_ct rfl n_int b_int (evs_cons (ev_cb rfl n_isinstance b_isinstance (evs_cons (ev_var 2 rfl) (evs_cons (ev_glob (v := .ref (er .many)) rfl X_many.g rfl fun _ => Rep.loc_iff.mpr rfl) evs_nil)) (c_isE' (WT.xc .pair) hz hf (fun u r => r) (WT.k1 .pair))) evs_nil) c_int_bl) o_rep1) (o_cat LA.l LA.l (by decide))) ?_) ND)
        exact sws_cons (sw_ret (EW.to (EV.cast (d' := txD [rfS .pair]) (ev_bin (ev_var 3 rfl) (ev_bin (ev_lst (evs_cons ev_str evs_nil)) (ev_ct rfl n_int b_int (evs_cons (ev_cb rfl n_isinstance b_isinstance (evs_cons (ev_var 2 rfl) (evs_cons (ev_glob (v := .ref (er .pair)) rfl X_pair.g rfl fun _ => Rep.loc_iff.mpr rfl) evs_nil)) (c_isE' (WT.xc .pair) hz hf (fun u r => r) (WT.k2 .pair))) evs_nil) c_int_bl) o_rep1) (o_cat LA.l LA.l (by decide))) rfl) (ends .pair eo2)))
end
end Ph
end

section
set_option maxRecDepth 100000
set_option maxHeartbeats 4000000
set_option pp.maxSteps 600
open PySem L2 D4
local macro_rules | `(tactic| walk_at "op") => `(tactic| first
  | exact o_add | exact o_sub | exact o_mul (Or.inr ⟨by decide, by decide⟩) | exact o_mul (Or.inl ⟨by decide, by decide⟩) | exact o_div ⟨by decide, by decide⟩ | exact o_mod (by decide) | exact o_lt | exact o_le | exact o_gt | exact o_ge
  | exact o_eqI | exact o_neI | exact o_eqS | exact o_neS | exact o_eqB | exact o_neB | exact o_isN | exact o_notN)
local macro_rules | `(tactic| walk_at "la") => `(tactic| first | exact LA.l | exact LA.c (by assumption) | exact LA.c um_same | exact LA.c (by walk_at "m"))
local macro_rules | `(tactic| walk_at "ix") => `(tactic| first | exact x_tup rfl | exact x_tup (by assumption) | exact x_scr (by assumption) | exact x_la (by walk_at "la") (by assumption) | exact x_la (by walk_at "la") rfl)
local macro_rules | `(tactic| walk_at "m") => `(tactic| first | assumption | exact um_same | exact um_old (by assumption) (by assumption))
local macro_rules | `(tactic| walk_at "w") => `(tactic| first | assumption | exact Nw.wr (by assumption) | exact Or.inl (by assumption))
local macro_rules | `(tactic| walk_at "dk") => `(tactic| first | exact Or.inl (by walk_at "m") | exact Or.inr ⟨_, _, by walk_at "m"⟩)
local macro_rules | `(tactic| walk_at "key") => `(tactic| first | exact IsKey.i (by walk_at "dk") | exact IsKey.t (by walk_at "m"))
local macro_rules | `(tactic| walk_at "ty") => `(tactic| first | exact TyD.int | exact TyD.bl | exact TyD.str | exact TyD.lst | exact TyD.tup | exact TyD.non | exact TyD.cl (by walk_at "m") | exact TyD.cd (by walk_at "m"))
local macro_rules | `(tactic| walk_at "call") => `(tactic| first
  | exact c_lenA (by walk_at "la") | exact c_len_scr | exact c_len_tup | exact c_len_dk (by walk_at "dk") | exact c_isi (c := true) (by walk_at "ty") | exact c_isi (c := false) (by walk_at "ty")
  | exact c_int_bl | exact c_all rfl | exact c_list_lst | exact c_tuple_lst | exact c_max2 rfl | exact c_min2 rfl)

namespace Ph
open PySem L2 D4 K8
section
variable {P : Program} {w : World} {K : Fg} {mg : Str → Option Value} {base : Heap}
/-! law k11: a deed, or a text that writes none -/
def badT : List Str := ["", "come", "go x", "come 1", "go 01", "Come 0 0", " go 0", "go 0 "]
theorem numOk_dec {z : Str} (h : (!decide (z = ("" : Str)) && !(decide (z.cps[0]? = some 48) && !decide (z = ("0" : Str))) && decide (z.length ≤ 30) && (z.cps.toList.all fun c => decide (c ∈ digs.cps.toList))) = false) : numOk z = false := h
theorem readO_of {z w0 : Str} {ws : List Str} (h : TL.spl [32] 0 [] (TL.tl z) = (w0 :: ws).map TL.tl) : readO z = if ((w0 = ("come" : Str) ∧ ws.length = 2) ∨ (w0 = ("go" : Str) ∧ ws.length = 1)) ∧ ws.all numOk = true then some (w0, ws.map valW) else none := by
  have e : Txt.split z spc = w0 :: ws := TL.map_tl_inj (by rw [split_tl]; exact h)
  unfold readO
  rw [e]
theorem badT_none : ∀ z ∈ badT, readO z = none := by
  intro z hz
  have h : ∀ {w0 : Str} {ws : List Str}, TL.spl [32] 0 [] (TL.tl z) = (w0 :: ws).map TL.tl → ¬ (((w0 = ("come" : Str) ∧ ws.length = 2) ∨ (w0 = ("go" : Str) ∧ ws.length = 1)) ∧ ws.all numOk = true) → readO z = none := fun e n => by rw [readO_of e, if_neg n]
  simp only [badT, List.mem_cons, List.not_mem_nil, or_false] at hz
  rcases hz with rfl | rfl | rfl | rfl | rfl | rfl | rfl | rfl
  · exact h (w0 := "") (ws := []) (by decide +kernel) (by decide +kernel)
  · exact h (w0 := "come") (ws := []) (by decide +kernel) (by decide +kernel)
  · exact h (w0 := "go") (ws := ["x"]) (by decide +kernel) (by decide +kernel)
  · exact h (w0 := "come") (ws := ["1"]) (by decide +kernel) (by decide +kernel)
  · exact h (w0 := "go") (ws := ["01"]) (by decide +kernel) (by decide +kernel)
  · exact h (w0 := "Come") (ws := ["0", "0"]) (by decide +kernel) (by decide +kernel)
  · exact h (w0 := "") (ws := ["go", "0"]) (by decide +kernel) (by decide +kernel)
  · exact h (w0 := "go") (ws := ["0", ""]) (by decide +kernel) (by decide +kernel)
theorem badT_ok : ∀ z ∈ badT, Plain z ∧ z.length ≤ 1000 := by
  have h : badT.all (fun z => (TL.tl z).all (fun c => decide (c < 128)) && decide (z.length ≤ 1000)) = true := by decide +kernel
  intro z hz
  have := List.all_eq_true.mp h z hz
  rw [Bool.and_eq_true, decide_eq_true_eq] at this
  exact ⟨.of this.1, this.2⟩
theorem deed_come {l r : Int} (hl : NumB l) (hr : NumB r) : DeedOk "come" [l, r] := ⟨.inl ⟨rfl, rfl⟩, fun n hn => by
  rcases List.mem_cons.mp hn with e | hn
  · rw [e]; exact hl
  · rw [List.mem_singleton.mp hn]; exact hr⟩
theorem deed_go {n : Int} (hn : NumB n) : DeedOk "go" [n] := ⟨.inr ⟨rfl, rfl⟩, fun m hm => by rw [List.mem_singleton.mp hm]; exact hn⟩
def S_drawn : FSp := fun _ _ M ds Φ _ => ∃ (c a b z came : Int) (ra : Addr) (es : List ERow), ds = [.int c, .tup [.int a, .int b, .int z], .loc (.ref ra), .int came] ∧ M ra = some (.dI (encE es)) ∧ okE es ∧ es.length ≤ 60 ∧ 1 ≤ a ∧ a ≤ 8 ∧ 1 ≤ b ∧ b ≤ 8 ∧ 0 ≤ came ∧ came ≤ 1000 ∧ (∀ n ∈ es.map (·.1), NumB n) ∧
  (∀ y ∈ badT, Φ M (.str y)) ∧ (∀ c ms, DeedOk c ms → Φ M (.tup (.str c :: ms.map D.int)))
theorem ok_drawn (F : FdOk K mg "_law_drawn" ["_law_cell", "_law_sizes", "_law_ends_here", "_law_came"] s_law_drawn) (G_deed : OkF P w K mg base "_law_deed" ["_law_cell", "_law_sizes", "_law_rows", "_law_most"] 2 S_law_deed) : OkF P w K mg base "_law_drawn" ["_law_cell", "_law_sizes", "_law_ends_here", "_law_came"] 3 S_drawn := by
  refine fnO F sc_law_drawn (fun own fr M ds Φ Ψ h => ?_) (fun f cdv A outer s H E hr b M ds Φ Ψ fr hfr h => ?_)
  · obtain ⟨c, a, b, z, came, ra, es, rfl, _⟩ := h
    rfl
  · obtain ⟨c, a, b', z, came, ra, es, rfl, hm, hok, hl, ha1, ha2, hb1, hb2, hc0, hc1, hnum, hbad, hgood⟩ := h
    have ND := sc_law_drawn.nd
    have hgc : ¬ (("go" : Str) = "come") := by decide +kernel
    have hcg : ¬ (("come" : Str) = "go") := by decide +kernel
    obtain ⟨T, hT⟩ : ∃ T : Int, T = 10 ^ (12 : Int).toNat := ⟨_, rfl⟩
    have hT1 : T = 1000000000000 := hT.trans ((congrArg (fun k : Nat => (10 : Int) ^ k) (show (12 : Int).toNat = 12 from rfl)).trans (by decide))
    have e30 : ((10 : Int) ^ 30) = 1000000000000000000000000000000 := by decide
    have nb : ∀ {n : Int}, 0 ≤ n → n ≤ 1000000000000 → NumB n := fun {n} h0 h1 => ⟨h0, by rw [e30]; omega⟩
    refine sws_cons (sw_if (TW.to (tv_cmp (ev_bin (ev_var 0 rfl) ev_int (by walk_at "op")) ev_int (by walk_at "op")) ⟨fun hc => ?_, fun hc => ?_⟩))
    · have hat : atI badT (c / 17 % 8) = some (badT.getD (c / 17 % 8).toNat "") := at_open (xs := badT) (i := c / 17 % 8) "" (Int.emod_nonneg _ (by decide)) (Int.emod_lt_of_pos _ (by decide))
      have hm : badT.getD (c / 17 % 8).toNat "" ∈ badT := by
        have hlt : (c / 17 % 8).toNat < badT.length := by show (c / 17 % 8).toNat < 8; omega
        rw [List.getD_eq_getElem?_getD, List.getElem?_eq_getElem hlt]
        exact List.getElem_mem hlt
      exact sws_cons (sw_ret (EW.to (ev_ix (EV.cast (d' := .lst (badT.map D.str)) (ev_lst (evs_cons ev_str (evs_cons ev_str (evs_cons ev_str (evs_cons ev_str (evs_cons ev_str (evs_cons ev_str (evs_cons ev_str (evs_cons ev_str evs_nil))))))))) rfl) (ev_bin (ev_bin (ev_var 0 rfl) ev_int (by walk_at "op")) ev_int (by walk_at "op")) (x_la LA.l (at_map hat))) (hbad _ hm)))
    refine sws_nil ?_
    refine sws_cons (sw_set 4 (ew_callO G_deed hr rfl (EWs.to (evs_cons (ev_bin (ev_var 0 rfl) ev_int (by walk_at "op")) (evs_cons (ev_var 1 rfl) (evs_cons (ev_var 2 rfl) (evs_cons ev_int evs_nil)))) (CallS.of fun fr' hf => ⟨c / 17, a, b', z, 41, ra, es, rfl, hm, hok, hl, by decide, ha1, ha2, hb1, hb2, fun n hn => ?_, fun hne l r l0 l1 r0 r1 => ?_⟩))) ND)
    · have hn := hnum n hn
      refine sws_cons (sw_if (TW.to (c := false) (tv_pw (TVW.cast (c := decide (("go" : Str) = "come") && false) (tvw_and (tv_cmp (ev_ix (ev_var 4 rfl) ev_int (x_tup rfl)) ev_str (by walk_at "op")) fun h => absurd (of_decide_eq_true h) hgc) (Bool.and_false _))) ⟨fun hc => (by cases hc), fun _ => sws_nil ?_⟩))
      refine sws_cons (sw_if (TW.to (tv_pw (tvw_and (tv_cmp (ev_ix (ev_var 4 rfl) ev_int (x_tup rfl)) ev_str (by walk_at "op")) fun _ => tvw_and1 (tv_cmp (ev_bin (ev_bin (ev_var 0 rfl) ev_int (by walk_at "op")) ev_int (by walk_at "op")) ev_int (by walk_at "op")))) ⟨fun hc => ?_, fun hc => ?_⟩))
      · have pk : ∃ m, NumB m ∧ atI [D.int came, .int (came + 7), .int T, .int 0] (c / 30 % 4) = some (.int m) := by
          rcases (show c / 30 % 4 = 0 ∨ c / 30 % 4 = 1 ∨ c / 30 % 4 = 2 ∨ c / 30 % 4 = 3 by omega) with h | h | h | h <;> rw [h]
          · exact ⟨_, nb hc0 (by omega), rfl⟩
          · exact ⟨_, nb (by omega) (by omega), rfl⟩
          · exact ⟨_, nb (by omega) (by omega), rfl⟩
          · exact ⟨_, nb (by omega) (by omega), rfl⟩
        obtain ⟨m, hm', hat⟩ := pk
        exact sws_cons (sw_ret (EW.to (ev_tup (evs_cons ev_str (evs_cons (ev_ix (ev_lst (evs_cons (ev_var 3 rfl) (evs_cons (ev_bin (ev_var 3 rfl) ev_int (by walk_at "op")) (evs_cons (EV.cast (d' := .int T) (ev_bin ev_int ev_int (o_pow ⟨by decide, by decide, by decide⟩)) (by rw [hT])) (evs_cons ev_int evs_nil))))) (ev_bin (ev_bin (ev_var 0 rfl) ev_int (by walk_at "op")) ev_int (by walk_at "op")) (x_la LA.l hat)) evs_nil))) (hgood "go" [m] (deed_go hm'))))
      · exact sws_nil (sws_cons (sw_ret (EW.to (ev_var 4 rfl) (hgood "go" [n] (deed_go hn)))))
    · have hl' : NumB l := nb l0 (by omega)
      have hr' : NumB r := nb r0 (by omega)
      refine sws_cons (sw_if (TW.to (tv_pw (tvw_and (tv_cmp (ev_ix (ev_var 4 rfl) ev_int (x_tup rfl)) ev_str (by walk_at "op")) fun _ => tvw_and1 (tv_cmp (ev_bin (ev_bin (ev_var 0 rfl) ev_int (by walk_at "op")) ev_int (by walk_at "op")) ev_int (by walk_at "op")))) ⟨fun hc => ?_, fun hc => ?_⟩))
      · have pk : ∃ l' r', NumB l' ∧ NumB r' ∧ atI [D.tup [.str "come", .int a, .int r], .tup [.str "come", .int l, .int b'], .tup [.str "come", .int T, .int 0]] (c / 30 % 3) = some (.tup [.str "come", .int l', .int r']) := by
          rcases (show c / 30 % 3 = 0 ∨ c / 30 % 3 = 1 ∨ c / 30 % 3 = 2 by omega) with h | h | h <;> rw [h]
          · exact ⟨_, _, nb (by omega) (by omega), hr', rfl⟩
          · exact ⟨_, _, hl', nb (by omega) (by omega), rfl⟩
          · exact ⟨_, _, nb (by omega) (by omega), nb (Int.le_refl 0) (by decide), rfl⟩
        obtain ⟨l', r', h1, h2, hat⟩ := pk
        exact sws_cons (sw_ret (EW.to (ev_ix (ev_lst (evs_cons (ev_tup (evs_cons ev_str (evs_cons (ev_ix (ev_var 1 rfl) ev_int (x_tup rfl)) (evs_cons (ev_ix (ev_var 4 rfl) ev_int (x_tup rfl)) evs_nil)))) (evs_cons (ev_tup (evs_cons ev_str (evs_cons (ev_ix (ev_var 4 rfl) ev_int (x_tup rfl)) (evs_cons (ev_ix (ev_var 1 rfl) ev_int (x_tup rfl)) evs_nil)))) (evs_cons (ev_tup (evs_cons ev_str (evs_cons (EV.cast (d' := .int T) (ev_bin ev_int ev_int (o_pow ⟨by decide, by decide, by decide⟩)) (by rw [hT])) (evs_cons ev_int evs_nil)))) evs_nil)))) (ev_bin (ev_bin (ev_var 0 rfl) ev_int (by walk_at "op")) ev_int (by walk_at "op")) (x_la LA.l hat)) (hgood "come" [l', r'] (deed_come h1 h2))))
      · refine sws_nil ?_
        refine sws_cons (sw_if (TW.to (c := false) (tv_pw (TVW.cast (c := decide (("come" : Str) = "go") && false) (tvw_and (tv_cmp (ev_ix (ev_var 4 rfl) ev_int (x_tup rfl)) ev_str (by walk_at "op")) fun h => absurd (of_decide_eq_true h) hcg) (Bool.and_false _))) ⟨fun hc => (by cases hc), fun _ => sws_nil ?_⟩))
        exact sws_cons (sw_ret (EW.to (ev_var 4 rfl) (hgood "come" [l, r] (deed_come hl' hr'))))
end
end Ph
end

section
set_option maxRecDepth 100000
set_option maxHeartbeats 4000000
set_option pp.maxSteps 600
open PySem L2 D4
local macro_rules | `(tactic| walk_at "op") => `(tactic| first
  | exact o_add | exact o_sub | exact o_mul (Or.inr ⟨by decide, by decide⟩) | exact o_mul (Or.inl ⟨by decide, by decide⟩) | exact o_div ⟨by decide, by decide⟩ | exact o_mod (by decide) | exact o_lt | exact o_le | exact o_gt | exact o_ge
  | exact o_eqI | exact o_neI | exact o_eqS | exact o_neS | exact o_eqB | exact o_neB | exact o_isN | exact o_notN)
local macro_rules | `(tactic| walk_at "la") => `(tactic| first | exact LA.l | exact LA.c (by assumption) | exact LA.c um_same | exact LA.c (by walk_at "m"))
local macro_rules | `(tactic| walk_at "ix") => `(tactic| first | exact x_tup rfl | exact x_tup (by assumption) | exact x_scr (by assumption) | exact x_la (by walk_at "la") (by assumption) | exact x_la (by walk_at "la") rfl)
local macro_rules | `(tactic| walk_at "m") => `(tactic| first | assumption | exact um_same | exact um_old (by assumption) (by assumption))
local macro_rules | `(tactic| walk_at "w") => `(tactic| first | assumption | exact Nw.wr (by assumption) | exact Or.inl (by assumption))
local macro_rules | `(tactic| walk_at "dk") => `(tactic| first | exact Or.inl (by walk_at "m") | exact Or.inr ⟨_, _, by walk_at "m"⟩)
local macro_rules | `(tactic| walk_at "key") => `(tactic| first | exact IsKey.i (by walk_at "dk") | exact IsKey.t (by walk_at "m"))
local macro_rules | `(tactic| walk_at "ty") => `(tactic| first | exact TyD.int | exact TyD.bl | exact TyD.str | exact TyD.lst | exact TyD.tup | exact TyD.non | exact TyD.cl (by walk_at "m") | exact TyD.cd (by walk_at "m"))
local macro_rules | `(tactic| walk_at "call") => `(tactic| first
  | exact c_lenA (by walk_at "la") | exact c_len_scr | exact c_len_tup | exact c_len_dk (by walk_at "dk") | exact c_isi (c := true) (by walk_at "ty") | exact c_isi (c := false) (by walk_at "ty")
  | exact c_int_bl | exact c_all rfl | exact c_list_lst | exact c_tuple_lst | exact c_max2 rfl | exact c_min2 rfl)

namespace Ph
open PySem L2 D4 K8
section
variable {P : Program} {w : World} {K : Fg} {mg : Str → Option Value} {base : Heap}
/-! a deed's parts, as texts -/
def partS : D → D
  | .int n => .str (numS n)
  | d => d
theorem parts_eq (c : Str) (ms : List Int) : (.str c :: ms.map D.int).map partS = (c :: ms.map numS).map D.str := by
  rw [List.map_cons, List.map_cons, List.map_map, List.map_map]; rfl
theorem big_log {n : Int} (h0 : 0 ≤ n) (h1 : n < 10 ^ 30) : n.natAbs.log2 < 1920 := by
  have e : ((10 : Int) ^ 30) = ((10 ^ 30 : Nat) : Int) := by decide
  rw [e] at h1
  have h2 : n.natAbs < 2 ^ 1920 := Nat.lt_of_lt_of_le (show n.natAbs < 10 ^ 30 by omega) (by decide +kernel)
  by_cases hz : n.natAbs = 0
  · rw [hz]; decide
  · exact (Nat.log2_lt hz).mpr h2
theorem sum_len (c : Str) (ms : List Int) (h : DeedOk c ms) : ((c :: ms.map numS).map (·.length)).sum + (c :: ms.map numS).length * spc.length ≤ 16777216 := by
  have hs : spc.length = 1 := by decide +kernel
  have hc : c.length ≤ 4 ∧ ms.length ≤ 2 := by
    rcases h.1 with ⟨e, e2⟩ | ⟨e, e2⟩
    · rw [e]; exact ⟨by decide +kernel, by omega⟩
    · rw [e]; exact ⟨by decide +kernel, by omega⟩
  have hm : ∀ l : List Int, (∀ n ∈ l, 0 ≤ n ∧ n < 10 ^ 30) → ((l.map numS).map (·.length)).sum ≤ 30 * l.length := by
    intro l hl
    induction l with
    | nil => simp
    | cons n l ih =>
      have h1 := len_numS (hl n List.mem_cons_self).1 (hl n List.mem_cons_self).2
      have h2 := ih fun m hm => hl m (List.mem_cons_of_mem _ hm)
      simp only [List.map_cons, List.sum_cons, List.length_cons]
      omega
  have := hm ms h.2
  simp only [List.map_cons, List.sum_cons, List.length_cons, List.length_map, hs]
  omega
/-! law k11 -/
def P_law : Mp → List D → D → Prop := fun _ ds d => ∃ ns : List Int, ns.length ≤ 63 ∧ ds = [.scr ns] ∧ d = .bl true
def S_law : FSp := PureS P_law
/-- what is due: the texts, and whether a pair came -/
def dueE (x : List Str × Bool) : D := .tup [txD x.1, .bl x.2]
/-- a deed, or a text that writes none -/
def DrawnD (d : D) : Prop := (∃ y ∈ badT, d = .str y) ∨ ∃ c ms, DeedOk c ms ∧ d = .tup (.str c :: ms.map D.int)
/-- the first forty -/
def deedF (a b : Int) (k : Nat) : D := .tup [.str "come", .int ((k : Int) % a), .int ((k : Int) / 3 % b)]
theorem deedF_ok {a b : Int} (ha1 : 1 ≤ a) (ha2 : a ≤ 8) (hb1 : 1 ≤ b) (hb2 : b ≤ 8) (k : Nat) : DrawnD (deedF a b k) := by
  have e30 : ((10 : Int) ^ 30) = 1000000000000000000000000000000 := by decide
  have h1 := Int.emod_nonneg (k : Int) (show a ≠ 0 by omega)
  have h2 := Int.emod_lt_of_pos (k : Int) (show 0 < a by omega)
  have h3 := Int.emod_nonneg ((k : Int) / 3) (show b ≠ 0 by omega)
  have h4 := Int.emod_lt_of_pos ((k : Int) / 3) (show 0 < b by omega)
  exact .inr ⟨"come", [(k : Int) % a, (k : Int) / 3 % b], deed_come ⟨h1, by rw [e30]; omega⟩ ⟨h3, by rw [e30]; omega⟩, rfl⟩
/-- the ends of a hall's pairs -/
def endsE (rs : Rows) : List ERow := (sortK (keys rs)).map fun n => (n, [D.int (rowOf rs n).1, .int (rowOf rs n).2.1], (rowOf rs n).1, (rowOf rs n).2.1)
theorem endsE_keys (rs : Rows) : (endsE rs).map (·.1) = sortK (keys rs) := by
  unfold endsE
  rw [List.map_map]
  exact List.map_id _
theorem endsE_enc (rs : Rows) : encE (endsE rs) = (sortK (keys rs)).map fun n => (n, D.tup [.int (rowOf rs n).1, .int (rowOf rs n).2.1]) := by
  unfold encE endsE
  rw [List.map_map]; rfl
theorem endsE_ok (rs : Rows) : okE (endsE rs) := fun x hx s hs => by
  obtain ⟨n, _, rfl⟩ := List.mem_map.mp hx
  rcases (show s = 0 ∨ s = 1 by omega) with rfl | rfl <;> rfl
theorem endsE_len (rs : Rows) : (endsE rs).length = rs.length := by
  unfold endsE
  rw [List.length_map, (sortK_perm _).length_eq, keys_len]
theorem endsE_num {rs : Rows} {came : Int} (I : Inv rs came) (hc : came ≤ 1000) : ∀ n ∈ (endsE rs).map (·.1), NumB n := fun n hn => by
  rw [endsE_keys, mem_sortK] at hn
  have := I.below n hn
  exact small_num this.1 (by omega)
theorem at_scr {ns : List Int} {j : Int} (h0 : 0 ≤ j) (h1 : j < ns.length) : ∃ c, atI ns j = some c := ⟨_, at_open 0 h0 h1⟩
/-- what was drawn so far -/
structure RunI (C : Addr) (M' : Mp) (h p lq dq : Addr) (a b came : Int) (rs : Rows) (ls : List Str) (us : List (List Str × Bool)) (n : Nat) : Prop where
  hall : HallAt C M' h p a b came rs
  lines : M' lq = some (.lst (ls.map D.str))
  due : M' dq = some (.lst (us.map dueE))
  ll : ls.length = n
  ul : us.length = n
  run : runL a b ([], 0) ls = ((rs, came), us.map (·.1))
  cl : came ≤ n
  lp : ∀ y ∈ ls, Plain y ∧ y.length ≤ 1000
  up : ∀ u ∈ us, ∀ t ∈ u.1, Plain t
  ub : ∀ u ∈ us, u.1.length ≤ 1000
theorem RunI.lq_h {C : Addr} {M' : Mp} {h p lq dq : Addr} {a b came : Int} {rs : Rows} {ls : List Str} {us : List (List Str × Bool)} {n : Nat} (R : RunI C M' h p lq dq a b came rs ls us n) : lq ≠ h ∧ dq ≠ h := by
  obtain ⟨⟨dx, hm, _⟩, _⟩ := R.hall
  exact ⟨ne_cell R.lines hm (fun e => by cases e), ne_cell R.due hm (fun e => by cases e)⟩
/-- a line more -/
theorem RunI.snoc {C : Addr} {M' M2 : Mp} {h p p2 lq dq : Addr} {a b came : Int} {rs : Rows} {ls : List Str} {us : List (List Str × Bool)} {n : Nat} (R : RunI C M' h p lq dq a b came rs ls us n) (hn : n ≤ 900) {y : Str} {f : Bool} (hy : Plain y ∧ y.length ≤ 1000)
    (H2 : HallAt C M2 h p2 a b (outL a b (rs, came) y).1.2 (outL a b (rs, came) y).1.1) (hl : M2 lq = some (.lst (ls.map D.str ++ [.str y]))) (hd : M2 dq = some (.lst (us.map dueE ++ [.tup [txD (outL a b (rs, came) y).2, .bl f]]))) :
    RunI C M2 h p2 lq dq a b (outL a b (rs, came) y).1.2 (outL a b (rs, came) y).1.1 (ls ++ [y]) (us ++ [((outL a b (rs, came) y).2, f)]) (n + 1) := by
  have hc := R.cl
  have ok := outL_ok (a := a) (b := b) (st := (rs, came)) R.hall.2 (by show came ≤ 1000; omega) y
  refine ⟨H2, by rw [hl, List.map_append]; rfl, by rw [hd, List.map_append]; rfl, by rw [List.length_append, R.ll]; rfl, by rw [List.length_append, R.ul]; rfl, ?_, ?_, ?_, ?_, ?_⟩
  · rw [runL_snoc, R.run, List.map_append]; rfl
  · have h1 := ok.came
    have h1 : (outL a b (rs, came) y).1.2 = came ∨ (outL a b (rs, came) y).1.2 = came + 1 := h1
    omega
  · intro x hx
    rcases List.mem_append.mp hx with hx | hx
    · exact R.lp x hx
    · rw [List.mem_singleton.mp hx]; exact hy
  · intro u hu
    rcases List.mem_append.mp hu with hu | hu
    · exact R.up u hu
    · rw [List.mem_singleton.mp hu]; exact ok.tx.2
  · intro u hu
    rcases List.mem_append.mp hu with hu | hu
    · exact R.ub u hu
    · rw [List.mem_singleton.mp hu]; exact ok.tx.1
end
end Ph
end

section
set_option maxRecDepth 100000
set_option maxHeartbeats 4000000
set_option pp.maxSteps 600
open PySem L2 D4
local macro_rules | `(tactic| walk_at "op") => `(tactic| first
  | exact o_add | exact o_sub | exact o_mul (Or.inr ⟨by decide, by decide⟩) | exact o_mul (Or.inl ⟨by decide, by decide⟩) | exact o_div ⟨by decide, by decide⟩ | exact o_mod (by decide) | exact o_lt | exact o_le | exact o_gt | exact o_ge
  | exact o_eqI | exact o_neI | exact o_eqS | exact o_neS | exact o_eqB | exact o_neB | exact o_isN | exact o_notN)
local macro_rules | `(tactic| walk_at "la") => `(tactic| first | exact LA.l | exact LA.c (by assumption) | exact LA.c um_same | exact LA.c (by walk_at "m"))
local macro_rules | `(tactic| walk_at "ix") => `(tactic| first | exact x_tup rfl | exact x_tup (by assumption) | exact x_scr (by assumption) | exact x_la (by walk_at "la") (by assumption) | exact x_la (by walk_at "la") rfl)
local macro_rules | `(tactic| walk_at "m") => `(tactic| first | assumption | exact um_same | exact um_old (by assumption) (by assumption))
local macro_rules | `(tactic| walk_at "w") => `(tactic| first | assumption | exact Nw.wr (by assumption) | exact Or.inl (by assumption))
local macro_rules | `(tactic| walk_at "dk") => `(tactic| first | exact Or.inl (by walk_at "m") | exact Or.inr ⟨_, _, by walk_at "m"⟩)
local macro_rules | `(tactic| walk_at "key") => `(tactic| first | exact IsKey.i (by walk_at "dk") | exact IsKey.t (by walk_at "m"))
local macro_rules | `(tactic| walk_at "ty") => `(tactic| first | exact TyD.int | exact TyD.bl | exact TyD.str | exact TyD.lst | exact TyD.tup | exact TyD.non | exact TyD.cl (by walk_at "m") | exact TyD.cd (by walk_at "m"))
local macro_rules | `(tactic| walk_at "call") => `(tactic| first
  | exact c_lenA (by walk_at "la") | exact c_len_scr | exact c_len_tup | exact c_len_dk (by walk_at "dk") | exact c_isi (c := true) (by walk_at "ty") | exact c_isi (c := false) (by walk_at "ty")
  | exact c_int_bl | exact c_all rfl | exact c_list_lst | exact c_tuple_lst | exact c_max2 rfl | exact c_min2 rfl)

namespace Ph
open PySem L2 D4 K8
section
variable {P : Program} {w : World} {K : Fg} {mg : Str → Option Value} {base : Heap}
/-! all of trues -/
theorem trues {α : Type} (L : List α) : ((L.filter fun _ => true).map fun _ => D.bl true) = (L.map fun _ => true).map D.bl := by rw [filter_all (fun _ => rfl), List.map_map]; rfl
theorem all_trues {X : Cx} {b : Bs} {M : Mp} {α : Type} (L : List α) (hc : X.calm = true) : CW X b (.builtin "all") M [.lst ((L.map fun _ => true).map D.bl)] (One M (.bl true)) := by
  have := c_all (X := X) (b := b) (M := M) (bs := L.map fun _ => true) hc
  rw [show ((L.map fun _ => true).all fun c => c) = true by rw [List.all_map]; exact List.all_eq_true.mpr fun _ _ => rfl] at this
  exact this
/-! law k11: the whole -/
theorem ok_law {C : Addr} {er : Er → Addr} {f : Addr} {fd : FuncData} (F : Fun K "law" "law" s_law f fd) (T : HallT K mg C) (G_cell_at : OkF P w K mg base "_law_cell_at" ["_law_script", "_law_k"] 1 S_cell_at) (G_mixed : OkF P w K mg base "_law_mixed" ["_law_cell", "_law_k"] 1 S_mixed)
    (G_sizes_by : OkF P w K mg base "_law_sizes_by" ["_law_cell"] 1 S_sizes_by) (G_init : OkM P w K mg base C "__init__" ["self", "lefts", "rights"] 2 (S_init C er)) (G_pairs : OkM P w K mg base C "pairs" ["self"] 1 (S_pairs C)) (G_drawn : OkF P w K mg base "_law_drawn" ["_law_cell", "_law_sizes", "_law_ends_here", "_law_came"] 3 S_drawn) (G_answer : OkF P w K mg base "_law_answer" ["_law_hall", "_law_deed_here"] 7 (S_answer C)) (G_play : OkF P w K mg base "play" ["lefts", "rights", "lines"] 8 (S_play C))
    (n_len : mg "len" = none) (n_int : mg "int" = none) (n_range : mg "range" = none) (n_min : mg "min" = none) (n_max : mg "max" = none) (n_isinstance : mg "isinstance" = none) (n_str : mg "str" = none) (n_list : mg "list" = none) (n_dict : mg "dict" = none) (n_all : mg "all" = none) : FnOk P w K mg base (L2.CX P w) 9 f fd ["_law_script"] (spD K S_law) := by
  refine fnD F sc_law (fun own fr M ds Φ Ψ h => ?_) (fun cdv A outer s H E hr b M ds Φ Ψ fr hfr h => ?_)
  · obtain ⟨d, ⟨ns, _, rfl, _⟩, _⟩ := h
    rfl
  · obtain ⟨d, ⟨ns, hns, rfl, rfl⟩, hΦ⟩ := h
    have ND := sc_law.nd
    have hu := hu_of hr
    refine sws_cons (sw_set 1 (EW.to (ev_callO G_cell_at hr rfl (evs_cons (ev_var 0 rfl) (evs_cons ev_int evs_nil)) ⟨ns, 0, rfl, rfl⟩) ?_) ND)
    generalize cellAt ns 0 = first
    refine sws_cons (sw_set 2 (ew_callO G_sizes_by hr rfl (EWs.to (evs_cons (ev_var 1 rfl) evs_nil) (CallS.of fun fr' hf => ⟨first, rfl, fun a b' z ha1 ha2 hb1 hb2 hz => ?_⟩))) ND)
    refine sws_cons (sw_set 3 (ew_mkO T.mkC T.kpC G_init hr rfl T.g (EWs.to (evs_cons (ev_ix (ev_var 2 rfl) ev_int (by walk_at "ix")) (evs_cons (ev_ix (ev_var 2 rfl) ev_int (by walk_at "ix")) evs_nil)) fun h dx hh1 hh2 => new_call hh1 hh2 ha1 ha2 hb1 hb2 fun M1 p hp1 hp2 hH hk => ?_)) ND)
    have hsub1 : Sub M M1 := fun x c e => hk x c e
    refine sws_cons (sw_set 4 (ew_dictI fun ea he1 he2 => ?_) ND)
    refine sws_cons (sw_set 5 (ew_lstN (EWs.to evs_nil ⟨by decide, fun lq hl1 hl2 => ?_⟩)) ND)
    refine sws_cons (sw_set 6 (ew_lstN (EWs.to evs_nil ⟨by decide, fun dq hd1 hd2 => ?_⟩)) ND)
    have hld : lq ≠ dq := fun e => by rw [← e, um_same] at hd1; cases hd1
    have hMn : ∀ {q : Addr} {M' : Mp}, Sub M M' → M' q = none → M q = none := fun {q M'} hs e => by
      cases e2 : M q with
      | none => rfl
      | some c => rw [hs _ _ e2] at e; cases e
    have hs2 : Sub M (um M1 ea (.dI [])) := hsub1.trans (Sub.um he1)
    have hs3 : Sub M (um (um M1 ea (.dI [])) lq (.lst [])) := hs2.trans (Sub.um hl1)
    have hlM : M lq = none := hMn hs2 hl1
    have hdM : M dq = none := hMn hs3 hd1
    have hwr : ∀ {q : Addr} {c : D4.C} {M' : Mp}, M q = none → Sub M M' → Sub M (um M' q c) := fun {q c M'} hq hs x cc e => by
      rw [um_ne (fun e2 => by rw [e2, hq] at e; cases e)]; exact hs x cc e
    obtain ⟨N, hN, hN40⟩ : ∃ N : Nat, (40 * (if decide (first / 5120 % 9 = 1) = true then 1 else 0) : Int) = (N : Int) ∧ N ≤ 40 := by
      by_cases hc : decide (first / 5120 % 9 = 1) = true
      · exact ⟨40, by rw [if_pos hc]; rfl, Nat.le_refl _⟩
      · exact ⟨0, by rw [if_neg hc]; rfl, Nat.zero_le _⟩
    refine sws_cons (sw_setLc 7 (own := [("_law_k", 8)]) (js := [8]) (t := fun _ => true) (f := deedF a b') (g := fun k => [.int (k : Nat)]) rfl ND (blkOk_by (by dsimp only [L2.cxOf, PyProof.Rows.envOfC]; decide +kernel)) (lcp_rng (n := (N : Int)) rfl n_range (EV.cast (ev_bin ev_int (ev_ct rfl n_int b_int (evs_cons (ev_cmp (ev_bin (ev_bin (ev_var 1 rfl) ev_int (by walk_at "op")) ev_int (by walk_at "op")) ev_int (by walk_at "op")) evs_nil) c_int_bl) (o_mul (Or.inl ⟨by decide, by decide⟩))) (by rw [hN])) (by omega) (by omega) (fun i hi _ _ _ _ _ => gs_name 8 ND) (fun i hi M2 hM => turn0 rfl fun _ _ _ _ _ => ev_tup (evs_cons ev_str (evs_cons (ev_bin (ev_var 8 rfl) (ev_ix (ev_var 2 rfl) ev_int (by walk_at "ix")) (o_mod (by omega))) (evs_cons (ev_bin (ev_bin (ev_var 8 rfl) ev_int (by walk_at "op")) (ev_ix (ev_var 2 rfl) ev_int (by walk_at "ix")) (o_mod (by omega))) evs_nil)))) ?_))
    rw [Int.toNat_natCast, filter_all (fun _ => rfl)]
    have hdl : ((List.range N).map (deedF a b')).length = N := by rw [List.length_map, List.length_range]
    obtain ⟨q, hq, hq30⟩ : ∃ q : Nat, (if (if (ns.length : Int) - 1 > 0 then (ns.length : Int) - 1 else 0) < 30 then (if (ns.length : Int) - 1 > 0 then (ns.length : Int) - 1 else 0) else 30 : Int) = (q : Int) ∧ q ≤ 30 ∧ (q : Int) ≤ (if (ns.length : Int) - 1 > 0 then (ns.length : Int) - 1 else 0) := by
      by_cases h1 : (ns.length : Int) - 1 > 0
      · by_cases h2 : (ns.length : Int) - 1 < 30
        · exact ⟨ns.length - 1, by rw [if_pos h1, if_pos h2]; omega, by omega, by rw [if_pos h1]; omega⟩
        · exact ⟨30, by rw [if_pos h1, if_neg h2]; rfl, Nat.le_refl _, by rw [if_pos h1]; omega⟩
      · exact ⟨0, by rw [if_neg h1, if_pos (by decide)]; rfl, Nat.zero_le _, by rw [if_neg h1]; exact Int.le_refl _⟩
    have he0 : encE (endsE []) = [] := by
      have : (endsE []).length = 0 := endsE_len []
      rw [List.length_eq_zero_iff.mp this]; rfl
    refine sws_mid (fun M' δ' => Sub M M' ∧ ∃ p rs came ea ls us o8 o9 o10 o11 o12, RunI C M' h p lq dq a b' came rs ls us (N + q) ∧ δ' = [some (.scr ns), some (.int first), some (.tup [.int a, .int b', .int z]), some (.loc (.ref h)), some (.loc (.ref ea)), some (.loc (.ref lq)), some (.loc (.ref dq)), some (.lst ((List.range N).map (deedF a b'))), o8, o9, o10, o11, o12, none, none, none, none, none, none, none, none])
      (sw_forR (n := ((N + q : Nat) : Int)) (fun i M' δ' => Sub M M' ∧ ∃ p rs came ea ls us o8 o9 o10 o11 o12, RunI C M' h p lq dq a b' came rs ls us i ∧ M' ea = some (.dI (encE (endsE rs))) ∧ δ' = [some (.scr ns), some (.int first), some (.tup [.int a, .int b', .int z]), some (.loc (.ref h)), some (.loc (.ref ea)), some (.loc (.ref lq)), some (.loc (.ref dq)), some (.lst ((List.range N).map (deedF a b'))), o8, o9, o10, o11, o12, none, none, none, none, none, none, none, none]) (passes_of rfl) rfl rfl n_range
        (EV.cast (ev_bin (ev_cb rfl n_len b_len (evs_cons (ev_var 7 rfl) evs_nil) (c_lenA LA.l)) (ev_cb rfl n_min b_min (evs_cons ev_int (evs_cons (ev_cb rfl n_max b_max (evs_cons ev_int (evs_cons (ev_bin (ev_cb rfl n_len b_len (evs_cons (ev_var 0 rfl) evs_nil) c_len_scr) ev_int o_sub) evs_nil)) (c_max2 rfl)) evs_nil)) (c_min2 rfl)) o_add) (by rw [hdl, hq, Int.natCast_add])) (by omega) (by omega)
        ⟨hs3.trans (Sub.um hd1), p, [], 0, ea, [], [], none, none, none, none, none, ⟨((hH.um he1).um hl1).um hd1, by rw [um_ne hld, um_same]; rfl, um_same, rfl, rfl, rfl, Int.le_refl _, fun y hy => (by cases hy), fun u hu' => (by cases hu'), fun u hu' => (by cases hu')⟩, by rw [he0]; exact um_old (um_old um_same hl1) hd1, rfl⟩ ?_
        (fun M' δ' ⟨hs, p, rs, came, ea, ls, us, o8, o9, o10, o11, o12, R, _, e⟩ => ⟨hs, p, rs, came, ea, ls, us, o8, o9, o10, o11, o12, by rw [Int.toNat_natCast] at R; exact R, e⟩)) ?_
    · rintro i M' δ' hi ⟨hsub, p, rs, came, ea, ls, us, o8, o9, o10, o11, o12, R, hea, rfl⟩
      have hi70 : i < 70 := by omega
      refine gw_name 8 ?_ ND
      have hc1 := R.cl
      have hll := R.ll
      have hul := R.ul
      obtain ⟨⟨dxa, hm, hp⟩, hI⟩ := id R.hall
      have hrl := hI.len
      obtain ⟨hlh, hdh⟩ := R.lq_h
      refine sws_mid (fun M2 δ2 => M2 = M' ∧ ∃ dd o9', DrawnD dd ∧ δ2 = [some (.scr ns), some (.int first), some (.tup [.int a, .int b', .int z]), some (.loc (.ref h)), some (.loc (.ref ea)), some (.loc (.ref lq)), some (.loc (.ref dq)), some (.lst ((List.range N).map (deedF a b'))), some (.int (i : Nat)), o9', some dd, o11, o12, none, none, none, none, none, none, none, none])
        (sw_if (TW.to (tv_cmp (ev_var 8 rfl) (ev_cb rfl n_len b_len (evs_cons (ev_var 7 rfl) evs_nil) (c_lenA LA.l)) (by walk_at "op")) ⟨fun hc => ?_, fun hc => ?_⟩)) ?_
      · have hc := of_decide_eq_true hc
        rw [hdl] at hc
        have hq2 := hq30.2
        have hb : 1 + (i : Int) - (((List.range N).map (deedF a b')).length : Nat) < (ns.length : Int) := by
          rw [hdl]
          by_cases h1 : (ns.length : Int) - 1 > 0
          · rw [if_pos h1] at hq2; omega
          · rw [if_neg h1] at hq2; omega
        obtain ⟨cell, hcell⟩ := at_scr (ns := ns) (j := 1 + (i : Int) - (((List.range N).map (deedF a b')).length : Nat)) (by rw [hdl]; omega) hb
        refine sws_cons (sw_set 9 (EW.to (ev_callO G_mixed hr rfl (evs_cons (ev_ix (ev_var 0 rfl) (ev_bin (ev_bin ev_int (ev_var 8 rfl) o_add) (ev_cb rfl n_len b_len (evs_cons (ev_var 7 rfl) evs_nil) (c_lenA LA.l)) o_sub) (x_scr hcell)) (evs_cons (ev_var 8 rfl) evs_nil)) ⟨cell, _, rfl, by omega, by omega, rfl⟩) ?_) ND)
        generalize mixed cell _ = mx
        have hfl := List.length_filter_le (fun u : List Str × Bool => u.2) us
        refine sws_cons (sw_set 10 (ew_callO G_drawn hr rfl (EWs.to (evs_cons (ev_var 9 rfl) (evs_cons (ev_var 2 rfl) (evs_cons (ev_var 4 rfl) (evs_cons (ev_cb rfl n_len b_len (evs_cons (ev_lcA (xs := us) (enc := dueE) [("_law_row", 18)] [18] (fun u => u.2) dueE (fun u => [dueE u]) rfl ND (ev_var 6 rfl) (.c R.due) (by omega) (fun x hx _ _ _ _ _ => gs_name 18 ND) (fun u hu' M2 hM => turn1 (fun _ _ _ _ _ => tv_val (ev_ix (ev_var 18 rfl) ev_int (x_tup rfl))) (fun _ _ _ _ _ _ => ev_var 18 rfl))) evs_nil) (c_lenA LA.l)) evs_nil)))) (CallS.of fun fr' hf => ⟨mx, a, b', z, _, ea, endsE rs, rfl, hea, endsE_ok rs, by rw [endsE_len]; omega, ha1, ha2, hb1, hb2, Int.natCast_nonneg _, by rw [List.length_map]; omega, endsE_num hI (by omega), fun y hy => ?_, fun c ms hd => ?_⟩))) ND)
        · exact sws_nil ⟨rfl, _, _, .inl ⟨y, hy, rfl⟩, rfl⟩
        · exact sws_nil ⟨rfl, _, _, .inr ⟨c, ms, hd, rfl⟩, rfl⟩
      · have hc := of_decide_eq_false hc
        rw [hdl] at hc
        have hiN : i < N := by omega
        have hat : atI ((List.range N).map (deedF a b')) (i : Int) = some (deedF a b' i) := atI_nat (by rw [List.getElem?_map, List.getElem?_range hiN]; rfl)
        refine sws_cons (sw_set 10 (EW.to (ev_ix (ev_var 7 rfl) (ev_var 8 rfl) (x_la LA.l hat)) ?_) ND)
        exact sws_nil ⟨rfl, _, _, deedF_ok ha1 ha2 hb1 hb2 i, rfl⟩
      · rintro M2 δ2 ⟨rfl, dd, o9', hdd, rfl⟩
        refine sws_mid (fun M3 δ3 => Sub M M3 ∧ ∃ p2 rs2 came2 ls2 us2 o11' o12', RunI C M3 h p2 lq dq a b' came2 rs2 ls2 us2 (i + 1) ∧ δ3 = [some (.scr ns), some (.int first), some (.tup [.int a, .int b', .int z]), some (.loc (.ref h)), some (.loc (.ref ea)), some (.loc (.ref lq)), some (.loc (.ref dq)), some (.lst ((List.range N).map (deedF a b'))), some (.int (i : Nat)), o9', some dd, o11', o12', none, none, none, none, none, none, none, none]) ?_ ?_
        · rcases hdd with ⟨y, hy, rfl⟩ | ⟨c, ms, hd, rfl⟩
          · have eo : outL a b' (rs, came) y = ((rs, came), [("bad line" : Str)]) := by unfold outL; rw [badT_none y hy]
            refine sw_if (TW.to (c := true) (tv_val (ev_cb rfl n_isinstance b_isinstance (evs_cons (ev_var 10 rfl) (evs_cons (ev_bltn (v := .ty "str") rfl n_str b_str rfl) evs_nil)) (c_isi (c := true) TyD.str))) ⟨fun _ => ?_, fun hc => (by cases hc)⟩)
            refine sws_cons (sw_expr (ew_append (ev_var 5 rfl) R.lines (.inl hl2) (by rw [List.length_map]; omega) (EW.to (ev_var 10 rfl) ⟨R.lines, ?_⟩)))
            have hdq2 : um M2 lq (.lst (ls.map D.str ++ [.str y])) dq = some (.lst (us.map dueE)) := by rw [um_ne (Ne.symm hld)]; exact R.due
            refine sws_cons (sw_expr (ew_append (ev_var 6 rfl) hdq2 (.inl hd2) (by rw [List.length_map]; omega) (EW.to (ev_tup (evs_cons (ev_lst (evs_cons ev_str evs_nil)) (evs_cons ev_bl evs_nil))) ⟨hdq2, ?_⟩)))
            refine sws_nil ⟨hwr hdM (hwr hlM hsub), p, _, _, _, _, _, _, R.snoc (f := false) (by omega) (badT_ok y hy) ?_ ?_ ?_, rfl⟩
            · rw [eo]; exact (R.hall.set R.lines).set hdq2
            · rw [um_ne hld, um_same]
            · rw [um_same, eo]; rfl
          · have hok := read_deed hd
            have h66 := len_deedTx hd
            have eo : outL a b' (rs, came) (deedTx c ms) = outD a b' (rs, came) c ms := by unfold outL; rw [hok]
            refine sw_if (TW.to (c := false) (tv_val (ev_cb rfl n_isinstance b_isinstance (evs_cons (ev_var 10 rfl) (evs_cons (ev_bltn (v := .ty "str") rfl n_str b_str rfl) evs_nil)) (c_isi (c := false) TyD.tup))) ⟨fun hc => (by cases hc), fun _ => ?_⟩)
            refine sws_cons (sw_expr (ew_append (ev_var 5 rfl) R.lines (.inl hl2) (by rw [List.length_map]; omega) (EW.to (d := .str (deedTx c ms)) (ev_join (z := spc) (ys := c :: ms.map numS) ev_str (EV.cast (d' := .lst ((c :: ms.map numS).map D.str)) (ev_lcTup (xs := .str c :: ms.map D.int) (enc := id) [("_law_part", 19)] [19] (fun _ => true) partS (fun x => [x]) rfl ND (EV.cast (ev_var 10 rfl) (by rw [List.map_id])) (by have := hd.1; simp only [List.length_cons, List.length_map]; omega) (fun x hx _ _ _ _ _ => gs_name 19 ND) (fun x hx M2 hM => turn0 rfl fun _ _ _ _ _ => ?_) (blkOk_by (by dsimp only [L2.cxOf, PyProof.Rows.envOfC]; decide +kernel))) (by rw [filter_all (fun _ => rfl), parts_eq])) LA.l (sum_len c ms hd)) ⟨R.lines, ?_⟩)))
            · rcases List.mem_cons.mp hx with e | hx
              · subst e
                exact ev_ct rfl n_str b_str (evs_cons (ev_var 19 rfl) evs_nil) c_str_str
              · obtain ⟨n, hn, rfl⟩ := List.mem_map.mp hx
                exact ev_ct rfl n_str b_str (evs_cons (ev_var 19 rfl) evs_nil) (c_str_int (big_log (hd.2 n hn).1 (hd.2 n hn).2))
            have hH2 : HallAt C (um M2 lq (.lst (ls.map D.str ++ [.str (deedTx c ms)]))) h p a b' came rs := R.hall.set R.lines
            have hdq2 : um M2 lq (.lst (ls.map D.str ++ [.str (deedTx c ms)])) dq = some (.lst (us.map dueE)) := by rw [um_ne (Ne.symm hld)]; exact R.due
            have hlq2 : um M2 lq (.lst (ls.map D.str ++ [.str (deedTx c ms)])) lq = some (.lst (ls.map D.str ++ [.str (deedTx c ms)])) := um_same
            have hsub2 : Sub M (um M2 lq (.lst (ls.map D.str ++ [.str (deedTx c ms)]))) := hwr hlM hsub
            generalize um M2 lq (.lst (ls.map D.str ++ [.str (deedTx c ms)])) = M4 at hH2 hdq2 hlq2 hsub2
            obtain ⟨⟨dxb, hm2, hp2⟩, _⟩ := id hH2
            refine sws_cons (sw_set 11 (EW.to (ev_cb rfl n_len b_len (evs_cons (ev_methF0 G_pairs T.cl hr (ev_var 3 rfl) hm2 (hall_no _ _ _ _ (by decide +kernel)) (pairs_call hH2)) evs_nil) (c_lenA LA.l)) ?_) ND)
            refine sws_cons (sw_set 12 (ew_callO G_answer hr rfl (EWs.to (evs_cons (ev_var 3 rfl) (evs_cons (ev_var 10 rfl) evs_nil)) ⟨fun y => y = h, fun y e => (by subst e; exact .inl hh2), fun fr' hf => ⟨h, p, a, b', came, rs, c, ms, rfl, hH2, rfl, by omega, hd, fun M3 p3 hH3 kept => ?_⟩⟩)) ND)
            have hdq3 := kept _ _ hdh hdq2
            have hlq3 := kept _ _ hlh hlq2
            have hsub3 := sub_kept hsub2 kept hh1
            obtain ⟨⟨dxc, hm3, hp3⟩, _⟩ := id hH3
            have at0 : atI (.str c :: ms.map D.int) 0 = some (.str c) := atI_nat (xs := .str c :: ms.map D.int) (j := 0) (v := .str c) rfl
            refine sws_cons (sw_expr (ew_append (ev_var 6 rfl) hdq3 (.inl hd2) (by rw [List.length_map]; omega) (EW.to (ev_tup (evs_cons (ev_var 12 rfl) (evs_cons (ev_and (ev_cmp (ev_ix (ev_var 10 rfl) ev_int (x_tup at0)) ev_str (by walk_at "op")) fun _ => ev_one (ev_cmp (ev_cb rfl n_len b_len (evs_cons (ev_methF0 G_pairs T.cl hr (ev_var 3 rfl) hm3 (hall_no _ _ _ _ (by decide +kernel)) (pairs_call hH3)) evs_nil) (c_lenA LA.l)) (ev_var 11 rfl) (by walk_at "op"))) evs_nil))) ⟨hdq3, ?_⟩)))
            refine sws_nil ⟨hwr hdM hsub3, p3, _, _, _, _, _, _, R.snoc (by omega) ⟨plain_deedTx hd, by omega⟩ ?_ ?_ (by rw [eo]; exact um_same), rfl⟩
            · rw [eo]; exact hH3.set hdq3
            · rw [um_ne hld]; exact hlq3
        · rintro M3 δ3 ⟨hsub3, p2, rs2, came2, ls2, us2, o11', o12', R2, rfl⟩
          obtain ⟨⟨dxd, hm4, hp4⟩, hI2⟩ := id R2.hall
          have hlen := hI2.len
          have hsl : (sortK (keys rs2)).length ≤ 100000 := by rw [(sortK_perm _).length_eq, keys_len]; omega
          have hkn : (((sortK (keys rs2)).map fun n => (n, D.tup [.int (rowOf rs2 n).1, .int (rowOf rs2 n).2.1])).map (·.1)).Nodup := by
            rw [List.map_map]
            show ((sortK (keys rs2)).map id).Nodup
            rw [List.map_id]; exact sortK_nd hI2.nd
          refine sws_cons (sw_set 4 (ew_ct rfl n_dict b_dict (EWs.to (evs_cons (EV.cast (d' := .lst (((sortK (keys rs2)).map fun n => (n, D.tup [.int (rowOf rs2 n).1, .int (rowOf rs2 n).2.1])).map fun kv => .tup [.int kv.1, kv.2])) (ev_lcA (xs := sortK (keys rs2)) (enc := pairD rs2) [("_law_row", 18)] [18] (fun _ => true) (fun n => .tup [.int n, .tup [.int (rowOf rs2 n).1, .int (rowOf rs2 n).2.1]]) (fun n => [pairD rs2 n]) rfl ND (ev_methF0 G_pairs T.cl hr (ev_var 3 rfl) hm4 (hall_no _ _ _ _ (by decide +kernel)) (pairs_call R2.hall)) .l hsl (fun x hx _ _ _ _ _ => gs_name 18 ND)
            (fun x hx M2 hM => turn0 rfl fun _ _ _ _ _ => ev_tup (evs_cons (ev_ix (ev_var 18 rfl) ev_int (x_tup rfl)) (evs_cons (EV.cast (d' := .tup [.int (rowOf rs2 x).1, .int (rowOf rs2 x).2.1]) (ev_cutT (xs := .int x :: enc3 (rowOf rs2 x)) (ev_var 18 rfl) (.some ev_int) (.some ev_int) (fun h => absurd h.1 (by show ¬ (1 = 0); decide))) rfl) evs_nil)))) (by rw [filter_all (fun _ => rfl), List.map_map]; rfl)) evs_nil) (c_dictP rfl hkn fun eq heq1 heq2 => ?_))) ND)
          exact sws_nil ⟨hsub3.trans (Sub.um heq1), p2, rs2, came2, eq, ls2, us2, _, _, _, _, _, ⟨R2.hall.um heq1, um_old R2.lines heq1, um_old R2.due heq1, R2.ll, R2.ul, R2.run, R2.cl, R2.lp, R2.up, R2.ub⟩, by rw [endsE_enc]; exact um_same, rfl⟩
    · rintro M' δ' ⟨hsub, p, rs, came, ea, ls, us, o8, o9, o10, o11, o12, R, rfl⟩
      have hll := R.ll
      have hul := R.ul
      have hq2 := hq30.1
      refine sws_cons (sw_set 13 (EW.to (ev_ct rfl n_list b_list (evs_cons (ev_var 5 rfl) evs_nil) (c_list_cell R.lines)) ?_) ND)
      refine sws_cons (sw_setA (xs := us) (enc := dueE) 14 [("_law_row", 18)] [18] (fun _ => true) (fun u => txD u.1) (fun u => [dueE u]) rfl ND (ev_var 6 rfl) (.c R.due) (by omega) (fun x hx _ _ _ _ _ => gs_name 18 ND) (fun u hu' M2 hM => turn0 rfl fun _ _ _ _ _ => ev_ix (ev_var 18 rfl) ev_int (x_tup rfl)) ?_)
      have et : (us.filter fun _ => true).map (fun u => txD u.1) = (runL a b' ([], 0) ls).2.map txD := by
        rw [filter_all (fun _ => rfl), R.run]
        show _ = (us.map (·.1)).map txD
        rw [List.map_map]; rfl
      rw [et]
      have okT : ∀ ts ∈ (runL a b' ([], 0) ls).2, ∀ t ∈ ts, PyData.strOk t = true := fun ts hts t ht => by
        rw [R.run] at hts
        obtain ⟨u, hu', rfl⟩ := List.mem_map.mp hts
        exact (R.up u hu' t ht).ok
      have okN : ∀ ts ∈ (runL a b' ([], 0) ls).2, ts.length ≤ 1000 := fun ts hts => by
        rw [R.run] at hts
        obtain ⟨u, hu', rfl⟩ := List.mem_map.mp hts
        exact R.ub u hu'
      have okL : Okd (.lst (ls.map D.str)) := okd_strs fun t ht => (R.lp t ht).1.ok
      refine sws_cons (sw_forR (fun i M2 δ2 => Sub M M2 ∧ M2 lq = some (.lst (ls.map D.str)) ∧ ∃ o15 o16 o17, δ2 = [some (.scr ns), some (.int first), some (.tup [.int a, .int b', .int z]), some (.loc (.ref h)), some (.loc (.ref ea)), some (.loc (.ref lq)), some (.loc (.ref dq)), some (.lst ((List.range N).map (deedF a b'))), o8, o9, o10, o11, o12, some (.lst (ls.map D.str)), some (.lst ((runL a b' ([], 0) ls).2.map txD)), o15, o16, o17, none, none, none]) (passes_of rfl) rfl rfl n_range ev_int (by decide) (by decide) ⟨hsub, R.lines, _, _, _, rfl⟩ ?_ ?_)
      · rintro i M2 δ2 hi ⟨hsub2, hlq2, o15, o16, o17, rfl⟩
        refine gw_name 15 ?_ ND
        refine sws_cons (sw_set 16 (ew_callO G_play hr rfl (EWs.to (evs_cons (ev_ix (ev_var 2 rfl) ev_int (by walk_at "ix")) (evs_cons (ev_ix (ev_var 2 rfl) ev_int (by walk_at "ix")) (evs_cons (ev_var 13 rfl) evs_nil))) (CallS.of fun fr' hf => ⟨a, b', ls, rfl, ha1, ha2, hb1, hb2, by omega, fun y hy => Nat.le_trans (R.lp y hy).2 (by decide), fun M3 qs hs3' hcells hnew hnd => ?_⟩))) ND)
        have hlq3 := hs3' _ _ hlq2
        have hqn : qs.length ≤ 100 := by have := hcells.1; rw [runL_len] at this; omega
        refine sws_cons (sw_if (TW.to (c := false) (TV.cast (tv_pw (tvw_or (tv_not (c := true) (tv_val (ev_cb rfl n_isinstance b_isinstance (evs_cons (ev_var 16 rfl) (evs_cons (ev_bltn (v := .ty "list") rfl n_list b_list rfl) evs_nil)) (c_isi (c := true) TyD.lst)))) fun _ => (tvw_or (tv_cmp (ev_var 16 rfl) (ev_var 14 rfl) (o_neCells hr.units hcells okT)) fun _ => (tvw_or1 (tv_cmp (ev_var 13 rfl) (ev_var 5 rfl) (o_neD hr.units .f (.c hlq3) okL okL)))))) (by rw [deq_refl okL.1]; rfl)) ⟨fun hc => (by cases hc), fun _ => sws_nil ?_⟩))
        refine sws_cons (sw_if (TW.to (c := false) (tv_not (c := true) (tv_val (ev_cb rfl n_all b_all (evs_cons (EV.cast (ev_lcA (xs := qs) (enc := locD) [("_law_one", 17)] [17] (fun _ => true) (fun _ => .bl true) (fun q => [locD q]) rfl ND (ev_var 16 rfl) .l (by omega) (fun x hx _ _ _ _ _ => gs_name 17 ND) (fun x hx M4 hM => turn0 rfl fun _ _ _ _ _ => ?_)) (congrArg D.lst (trues qs))) evs_nil) (all_trues _ rfl)))) ⟨fun hc => (by cases hc), fun _ => sws_nil ?_⟩))
        · obtain ⟨ts, hts, hxm⟩ := hcells.mem hx
          have hxm4 := hM _ _ hxm
          have htl : ts.length ≤ 1000 := okN ts hts
          exact EV.cast (ev_and (c1 := true) (c2 := true) (ev_cb rfl n_isinstance b_isinstance (evs_cons (ev_var 17 rfl) (evs_cons (ev_bltn (v := .ty "list") rfl n_list b_list rfl) evs_nil)) (c_isi (c := true) (TyD.cl hxm4))) fun _ => ev_one (ev_cb rfl n_all b_all (evs_cons (EV.cast (ev_lcA (xs := ts) (enc := D.str) [("_law_text_here", 20)] [20] (fun _ => true) (fun _ => .bl true) (fun t => [.str t]) rfl ND (ev_var 17 rfl) (.c hxm4) (by omega) (fun y hy _ _ _ _ _ => gs_name 20 ND) (fun y hy M5 hM5 => turn0 rfl fun _ _ _ _ _ => ev_cb rfl n_isinstance b_isinstance (evs_cons (ev_var 20 rfl) (evs_cons (ev_bltn (v := .ty "str") rfl n_str b_str rfl) evs_nil)) (c_isi (c := true) TyD.str)) (blkOk_by (by rfl))) (congrArg D.lst (trues ts))) evs_nil) (all_trues _ rfl))) rfl
        · refine sws_cons (sw_forL (xs := qs.map locD) (fun j M4 δ4 => Sub M M4 ∧ M4 lq = some (.lst (ls.map D.str)) ∧ (∀ q ∈ qs, ∃ L, M4 q = some (.lst L) ∧ L.length ≤ 1000 + j) ∧ ∃ o17', δ4 = [some (.scr ns), some (.int first), some (.tup [.int a, .int b', .int z]), some (.loc (.ref h)), some (.loc (.ref ea)), some (.loc (.ref lq)), some (.loc (.ref dq)), some (.lst ((List.range N).map (deedF a b'))), o8, o9, o10, o11, o12, some (.lst (ls.map D.str)), some (.lst ((runL a b' ([], 0) ls).2.map txD)), some (.int (i : Nat)), some (.lst (qs.map locD)), o17', none, none, none]) (passes_of rfl) rfl (ev_var 16 rfl) .l
            ⟨hsub2.trans hs3', hlq3, fun q hq => ?_, _, rfl⟩ (fun _ _ _ _ => .l) ?_ (fun M4 δ4 ⟨h1, h2, _, o, e⟩ => ?_))
          · obtain ⟨ts, hts, hqm⟩ := hcells.mem hq
            exact ⟨_, hqm, by rw [List.length_map]; exact okN ts hts⟩
          · rintro j d M4 δ4 hj ⟨hsub4, hlq4, hL, o17', rfl⟩
            rw [List.getElem?_map] at hj
            cases hqj : qs[j]? with
            | none => rw [hqj] at hj; cases hj
            | some q =>
              rw [hqj] at hj
              cases hj
              refine gw_name 17 ?_ ND
              have hqm := List.mem_of_getElem? hqj
              obtain ⟨L, hL1, hL2⟩ := hL q hqm
              have hj100 : j < 100 := by have := (List.getElem?_eq_some_iff.mp hqj).1; omega
              have hqM2 := (hnew q hqm).1
              have hqlq : lq ≠ q := fun e => by rw [← e, hlq2] at hqM2; cases hqM2
              refine sws_cons (sw_expr (ew_append (ev_var 17 rfl) hL1 (.inl (hf q (hnew q hqm).2).2) (by omega) (EW.to ev_str ⟨hL1, ?_⟩)))
              refine sws_nil ⟨hwr (hMn hsub2 hqM2) hsub4, by rw [um_ne hqlq]; exact hlq4, fun q' hq' => ?_, _, rfl⟩
              by_cases e : q' = q
              · rw [e, um_same]
                exact ⟨_, rfl, by rw [List.length_append]; show L.length + 1 ≤ _; omega⟩
              · rw [um_ne e]
                obtain ⟨L', h1, h2⟩ := hL q' hq'
                exact ⟨L', h1, by omega⟩
          · exact sws_nil ⟨h1, h2, _, _, _, e⟩
      · rintro M2 δ2 ⟨hsub2, hlq2, o15, o16, o17, rfl⟩
        exact sws_cons (sw_ret (EW.less (EW.to ev_bl ⟨M, hsub2, hΦ⟩)))
end
end Ph
end

section
set_option maxRecDepth 100000
set_option maxHeartbeats 8000000
set_option pp.maxSteps 600
namespace Ph
open PySem L2 D4 K8
theorem P_law_ok (ns : List Int) (h : ns.length ≤ 63) : P_law (fun _ => none) [.scr ns] (.bl true) := ⟨ns, h, rfl, rfl⟩
theorem all_mk {l : PySem.W.OpenLaw} {w : World} {K : PySem.W.Frag} {h : Heap} {mg : Str → Option Value} {fa : Addr} (X : K.In h) (G : h.Ns mainGlobals mg) (hfa : mg "law" = some (.ref fa))
    {f0 f1 f2 f3 f4 f5 f6 f7 f8 f9 f10 f11 f12 f13 f14 f15 f16 f17 f18 f19 f20 f21 f22 f23 C f24 f25 f26 f27 f28 f29 f30 f31 e0 e1 e2 e3 e4 pe ln sd : Addr} {od0 an0 od1 an1 od2 an2 od3 an3 od4 an4 od5 an5 od6 an6 od7 an7 od8 an8 od9 an9 od10 an10 od11 an11 od12 an12 od13 an13 od14 an14 od15 an15 od16 an16 od17 an17 od18 an18 od19 an19 od20 an20 od21 an21 od22 an22 od23 an23 od24 an24 od25 an25 od26 an26 od27 an27 od28 an28 od29 an29 od30 an30 od31 an31 : Option Addr} {sl0 sl1 sl2 sl3 sl4 sl5 sl6 sl7 sl8 sl9 sl10 sl11 sl12 sl13 sl14 sl15 sl16 sl17 sl18 sl19 sl20 sl21 sl22 sl23 sl24 sl25 sl26 sl27 sl28 sl29 sl30 sl31 sls : Array (Option Value)} {oc0 kV0 dc0 pm0 cd0 ct0 oc1 kV1 dc1 pm1 cd1 ct1 oc2 kV2 dc2 pm2 cd2 ct2 oc3 kV3 dc3 pm3 cd3 ct3 oc4 kV4 dc4 pm4 cd4 ct4 oc5 kV5 dc5 pm5 cd5 ct5 oc6 kV6 dc6 pm6 cd6 ct6 oc7 kV7 dc7 pm7 cd7 ct7 oc8 kV8 dc8 pm8 cd8 ct8 oc9 kV9 dc9 pm9 cd9 ct9 oc10 kV10 dc10 pm10 cd10 ct10 oc11 kV11 dc11 pm11 cd11 ct11 oc12 kV12 dc12 pm12 cd12 ct12 oc13 kV13 dc13 pm13 cd13 ct13 oc14 kV14 dc14 pm14 cd14 ct14 oc15 kV15 dc15 pm15 cd15 ct15 oc16 kV16 dc16 pm16 cd16 ct16 oc17 kV17 dc17 pm17 cd17 ct17 oc18 kV18 dc18 pm18 cd18 ct18 oc19 kV19 dc19 pm19 cd19 ct19 oc20 kV20 dc20 pm20 cd20 ct20 oc21 kV21 dc21 pm21 cd21 ct21 oc22 kV22 dc22 pm22 cd22 ct22 oc23 kV23 dc23 pm23 cd23 ct23 oc24 kV24 dc24 pm24 cd24 ct24 oc25 kV25 dc25 pm25 cd25 ct25 oc26 kV26 dc26 pm26 cd26 ct26 oc27 kV27 dc27 pm27 cd27 ct27 oc28 kV28 dc28 pm28 cd28 ct28 oc29 kV29 dc29 pm29 cd29 ct29 oc30 kV30 dc30 pm30 cd30 ct30 oc31 kV31 dc31 pm31 cd31 ct31 : Value} {tF ti0 ti1 ts1 ts2 tn : Nat}
    (a0 : PySem.W.nsIn K mainGlobals "index_of" = some (some (.ref f0))) (l0 : K.lookup f0 = some ⟨oc0, od0, .func (PySem.W.fnOf "index_of" "index_of" (defArgs s_index_of) (defBody s_index_of) (defScope s_index_of) .none kV0 dc0 pm0 an0 cd0 ct0), sl0⟩) (c0 : PySem.W.codeIn K cd0 "index_of" = true) (k0 : PySem.W.keepIn K (.ref f0) = true)
    (a1 : PySem.W.nsIn K mainGlobals "free_at" = some (some (.ref f1))) (l1 : K.lookup f1 = some ⟨oc1, od1, .func (PySem.W.fnOf "free_at" "free_at" (defArgs s_free_at) (defBody s_free_at) (defScope s_free_at) .none kV1 dc1 pm1 an1 cd1 ct1), sl1⟩) (c1 : PySem.W.codeIn K cd1 "free_at" = true) (k1 : PySem.W.keepIn K (.ref f1) = true)
    (a2 : PySem.W.nsIn K mainGlobals "chain_from" = some (some (.ref f2))) (l2 : K.lookup f2 = some ⟨oc2, od2, .func (PySem.W.fnOf "chain_from" "chain_from" (defArgs s_chain_from) (defBody s_chain_from) (defScope s_chain_from) .none kV2 dc2 pm2 an2 cd2 ct2), sl2⟩) (c2 : PySem.W.codeIn K cd2 "chain_from" = true) (k2 : PySem.W.keepIn K (.ref f2) = true)
    (a3 : PySem.W.nsIn K mainGlobals "turned" = some (some (.ref f3))) (l3 : K.lookup f3 = some ⟨oc3, od3, .func (PySem.W.fnOf "turned" "turned" (defArgs s_turned) (defBody s_turned) (defScope s_turned) .none kV3 dc3 pm3 an3 cd3 ct3), sl3⟩) (c3 : PySem.W.codeIn K cd3 "turned" = true) (k3 : PySem.W.keepIn K (.ref f3) = true)
    (a4 : PySem.W.nsIn K mainGlobals "ways" = some (some (.ref f4))) (l4 : K.lookup f4 = some ⟨oc4, od4, .func (PySem.W.fnOf "ways" "ways" (defArgs s_ways) (defBody s_ways) (defScope s_ways) .none kV4 dc4 pm4 an4 cd4 ct4), sl4⟩) (c4 : PySem.W.codeIn K cd4 "ways" = true) (k4 : PySem.W.keepIn K (.ref f4) = true)
    (a5 : PySem.W.nsIn K mainGlobals "hue_given" = some (some (.ref f5))) (l5 : K.lookup f5 = some ⟨oc5, od5, .func (PySem.W.fnOf "hue_given" "hue_given" (defArgs s_hue_given) (defBody s_hue_given) (defScope s_hue_given) .none kV5 dc5 pm5 an5 cd5 ct5), sl5⟩) (c5 : PySem.W.codeIn K cd5 "hue_given" = true) (k5 : PySem.W.keepIn K (.ref f5) = true)
    (a6 : PySem.W.nsIn K mainGlobals "is_among" = some (some (.ref f6))) (l6 : K.lookup f6 = some ⟨oc6, od6, .func (PySem.W.fnOf "is_among" "is_among" (defArgs s_is_among) (defBody s_is_among) (defScope s_is_among) .none kV6 dc6 pm6 an6 cd6 ct6), sl6⟩) (c6 : PySem.W.codeIn K cd6 "is_among" = true) (k6 : PySem.W.keepIn K (.ref f6) = true)
    (a7 : PySem.W.nsIn K mainGlobals "_law_cell_at" = some (some (.ref f7))) (l7 : K.lookup f7 = some ⟨oc7, od7, .func (PySem.W.fnOf "_law_cell_at" "_law_cell_at" (defArgs s_law_cell_at) (defBody s_law_cell_at) (defScope s_law_cell_at) .none kV7 dc7 pm7 an7 cd7 ct7), sl7⟩) (c7 : PySem.W.codeIn K cd7 "_law_cell_at" = true) (k7 : PySem.W.keepIn K (.ref f7) = true)
    (a8 : PySem.W.nsIn K mainGlobals "_law_mixed" = some (some (.ref f8))) (l8 : K.lookup f8 = some ⟨oc8, od8, .func (PySem.W.fnOf "_law_mixed" "_law_mixed" (defArgs s_law_mixed) (defBody s_law_mixed) (defScope s_law_mixed) .none kV8 dc8 pm8 an8 cd8 ct8), sl8⟩) (c8 : PySem.W.codeIn K cd8 "_law_mixed" = true) (k8 : PySem.W.keepIn K (.ref f8) = true)
    (a9 : PySem.W.nsIn K mainGlobals "fulls" = some (some (.ref f9))) (l9 : K.lookup f9 = some ⟨oc9, od9, .func (PySem.W.fnOf "fulls" "fulls" (defArgs s_fulls) (defBody s_fulls) (defScope s_fulls) .none kV9 dc9 pm9 an9 cd9 ct9), sl9⟩) (c9 : PySem.W.codeIn K cd9 "fulls" = true) (k9 : PySem.W.keepIn K (.ref f9) = true)
    (a10 : PySem.W.nsIn K mainGlobals "count_of" = some (some (.ref f10))) (l10 : K.lookup f10 = some ⟨oc10, od10, .func (PySem.W.fnOf "count_of" "count_of" (defArgs s_count_of) (defBody s_count_of) (defScope s_count_of) .none kV10 dc10 pm10 an10 cd10 ct10), sl10⟩) (c10 : PySem.W.codeIn K cd10 "count_of" = true) (k10 : PySem.W.keepIn K (.ref f10) = true)
    (a11 : PySem.W.nsIn K mainGlobals "number_in" = some (some (.ref f11))) (l11 : K.lookup f11 = some ⟨oc11, od11, .func (PySem.W.fnOf "number_in" "number_in" (defArgs s_number_in) (defBody s_number_in) (defScope s_number_in) .none kV11 dc11 pm11 an11 cd11 ct11), sl11⟩) (c11 : PySem.W.codeIn K cd11 "number_in" = true) (k11 : PySem.W.keepIn K (.ref f11) = true)
    (a12 : PySem.W.nsIn K mainGlobals "deed_of" = some (some (.ref f12))) (l12 : K.lookup f12 = some ⟨oc12, od12, .func (PySem.W.fnOf "deed_of" "deed_of" (defArgs s_deed_of) (defBody s_deed_of) (defScope s_deed_of) .none kV12 dc12 pm12 an12 cd12 ct12), sl12⟩) (c12 : PySem.W.codeIn K cd12 "deed_of" = true) (k12 : PySem.W.keepIn K (.ref f12) = true)
    (a13 : PySem.W.nsIn K mainGlobals "_law_sizes_by" = some (some (.ref f13))) (l13 : K.lookup f13 = some ⟨oc13, od13, .func (PySem.W.fnOf "_law_sizes_by" "_law_sizes_by" (defArgs s_law_sizes_by) (defBody s_law_sizes_by) (defScope s_law_sizes_by) .none kV13 dc13 pm13 an13 cd13 ct13), sl13⟩) (c13 : PySem.W.codeIn K cd13 "_law_sizes_by" = true) (k13 : PySem.W.keepIn K (.ref f13) = true)
    (a14 : PySem.W.nsIn K mainGlobals "_law_ends" = some (some (.ref f14))) (l14 : K.lookup f14 = some ⟨oc14, od14, .func (PySem.W.fnOf "_law_ends" "_law_ends" (defArgs s_law_ends) (defBody s_law_ends) (defScope s_law_ends) .none kV14 dc14 pm14 an14 cd14 ct14), sl14⟩) (c14 : PySem.W.codeIn K cd14 "_law_ends" = true) (k14 : PySem.W.keepIn K (.ref f14) = true)
    (a15 : PySem.W.nsIn K mainGlobals "_law_deed" = some (some (.ref f15))) (l15 : K.lookup f15 = some ⟨oc15, od15, .func (PySem.W.fnOf "_law_deed" "_law_deed" (defArgs s_law_deed) (defBody s_law_deed) (defScope s_law_deed) .none kV15 dc15 pm15 an15 cd15 ct15), sl15⟩) (c15 : PySem.W.codeIn K cd15 "_law_deed" = true) (k15 : PySem.W.keepIn K (.ref f15) = true)
    (a16 : PySem.W.nsIn K mainGlobals "text_of" = some (some (.ref f16))) (l16 : K.lookup f16 = some ⟨oc16, od16, .func (PySem.W.fnOf "text_of" "text_of" (defArgs s_text_of) (defBody s_text_of) (defScope s_text_of) .none kV16 dc16 pm16 an16 cd16 ct16), sl16⟩) (c16 : PySem.W.codeIn K cd16 "text_of" = true) (k16 : PySem.W.keepIn K (.ref f16) = true)
    (a17 : PySem.W.nsIn K mainGlobals "_law_text" = some (some (.ref f17))) (l17 : K.lookup f17 = some ⟨oc17, od17, .func (PySem.W.fnOf "_law_text" "_law_text" (defArgs s_law_text) (defBody s_law_text) (defScope s_law_text) .none kV17 dc17 pm17 an17 cd17 ct17), sl17⟩) (c17 : PySem.W.codeIn K cd17 "_law_text" = true) (k17 : PySem.W.keepIn K (.ref f17) = true)
    (a18 : PySem.W.nsIn K mainGlobals "word_of" = some (some (.ref f18))) (l18 : K.lookup f18 = some ⟨oc18, od18, .func (PySem.W.fnOf "word_of" "word_of" (defArgs s_word_of) (defBody s_word_of) (defScope s_word_of) .none kV18 dc18 pm18 an18 cd18 ct18), sl18⟩) (c18 : PySem.W.codeIn K cd18 "word_of" = true) (k18 : PySem.W.keepIn K (.ref f18) = true)
    (a19 : PySem.W.nsIn K mainGlobals "done" = some (some (.ref f19))) (l19 : K.lookup f19 = some ⟨oc19, od19, .func (PySem.W.fnOf "done" "done" (defArgs s_done) (defBody s_done) (defScope s_done) .none kV19 dc19 pm19 an19 cd19 ct19), sl19⟩) (c19 : PySem.W.codeIn K cd19 "done" = true) (k19 : PySem.W.keepIn K (.ref f19) = true)
    (a20 : PySem.W.nsIn K mainGlobals "play" = some (some (.ref f20))) (l20 : K.lookup f20 = some ⟨oc20, od20, .func (PySem.W.fnOf "play" "play" (defArgs s_play) (defBody s_play) (defScope s_play) .none kV20 dc20 pm20 an20 cd20 ct20), sl20⟩) (c20 : PySem.W.codeIn K cd20 "play" = true) (k20 : PySem.W.keepIn K (.ref f20) = true)
    (a21 : PySem.W.nsIn K mainGlobals "_law_answer" = some (some (.ref f21))) (l21 : K.lookup f21 = some ⟨oc21, od21, .func (PySem.W.fnOf "_law_answer" "_law_answer" (defArgs s_law_answer) (defBody s_law_answer) (defScope s_law_answer) .none kV21 dc21 pm21 an21 cd21 ct21), sl21⟩) (c21 : PySem.W.codeIn K cd21 "_law_answer" = true) (k21 : PySem.W.keepIn K (.ref f21) = true)
    (a22 : PySem.W.nsIn K mainGlobals "_law_drawn" = some (some (.ref f22))) (l22 : K.lookup f22 = some ⟨oc22, od22, .func (PySem.W.fnOf "_law_drawn" "_law_drawn" (defArgs s_law_drawn) (defBody s_law_drawn) (defScope s_law_drawn) .none kV22 dc22 pm22 an22 cd22 ct22), sl22⟩) (c22 : PySem.W.codeIn K cd22 "_law_drawn" = true) (k22 : PySem.W.keepIn K (.ref f22) = true)
    (a23 : PySem.W.nsIn K mainGlobals "law" = some (some (.ref f23))) (l23 : K.lookup f23 = some ⟨oc23, od23, .func (PySem.W.fnOf "law" "law" (defArgs s_law) (defBody s_law) (defScope s_law) .none kV23 dc23 pm23 an23 cd23 ct23), sl23⟩) (c23 : PySem.W.codeIn K cd23 "law" = true) (k23 : PySem.W.keepIn K (.ref f23) = true)
    (aC : PySem.W.nsIn K mainGlobals "Hall" = some (some (.ref C)))
    (pg : PySem.W.plainGet K C Str.empty = true)
    (hd : PySem.W.hasDictIn K C = true)
    (po : PySem.W.plainOver K C = true)
    (sa : PySem.W.findIn K (.ref C) "__setattr__" = some (some (.builtin "object.__setattr__")))
    (mk : PySem.W.makesIn K C = true)
    (kc : PySem.W.keepIn K (.ref C) = true)
    (ns : PySem.W.findIn K (.ref C) "sizes" = some none)
    (nr : PySem.W.findIn K (.ref C) "rows" = some none)
    (nc : PySem.W.findIn K (.ref C) "came" = some none)
    (a24 : PySem.W.findIn K (.ref C) "place_of" = some (some (.ref f24))) (l24 : K.lookup f24 = some ⟨oc24, od24, .func (PySem.W.fnOf "place_of" "Hall.place_of" (defArgs s_Hall_place_of) (defBody s_Hall_place_of) (defScope s_Hall_place_of) .none kV24 dc24 pm24 an24 cd24 ct24), sl24⟩) (c24 : PySem.W.codeIn K cd24 "Hall.place_of" = true) (k24 : PySem.W.keepIn K (.ref f24) = true)
    (i24 : PySem.W.isFn K (.ref f24) = true)
    (a25 : PySem.W.findIn K (.ref C) "__init__" = some (some (.ref f25))) (l25 : K.lookup f25 = some ⟨oc25, od25, .func (PySem.W.fnOf "__init__" "Hall.__init__" (defArgs s_Hall___init) (defBody s_Hall___init) (defScope s_Hall___init) .none kV25 dc25 pm25 an25 cd25 ct25), sl25⟩) (c25 : PySem.W.codeIn K cd25 "Hall.__init__" = true) (k25 : PySem.W.keepIn K (.ref f25) = true)
    (i25 : PySem.W.isFn K (.ref f25) = true)
    (a26 : PySem.W.findIn K (.ref C) "count" = some (some (.ref f26))) (l26 : K.lookup f26 = some ⟨oc26, od26, .func (PySem.W.fnOf "count" "Hall.count" (defArgs s_Hall_count) (defBody s_Hall_count) (defScope s_Hall_count) .none kV26 dc26 pm26 an26 cd26 ct26), sl26⟩) (c26 : PySem.W.codeIn K cd26 "Hall.count" = true) (k26 : PySem.W.keepIn K (.ref f26) = true)
    (i26 : PySem.W.isFn K (.ref f26) = true)
    (a27 : PySem.W.findIn K (.ref C) "put" = some (some (.ref f27))) (l27 : K.lookup f27 = some ⟨oc27, od27, .func (PySem.W.fnOf "put" "Hall.put" (defArgs s_Hall_put) (defBody s_Hall_put) (defScope s_Hall_put) .none kV27 dc27 pm27 an27 cd27 ct27), sl27⟩) (c27 : PySem.W.codeIn K cd27 "Hall.put" = true) (k27 : PySem.W.keepIn K (.ref f27) = true)
    (i27 : PySem.W.isFn K (.ref f27) = true)
    (a28 : PySem.W.findIn K (.ref C) "come" = some (some (.ref f28))) (l28 : K.lookup f28 = some ⟨oc28, od28, .func (PySem.W.fnOf "come" "Hall.come" (defArgs s_Hall_come) (defBody s_Hall_come) (defScope s_Hall_come) .none kV28 dc28 pm28 an28 cd28 ct28), sl28⟩) (c28 : PySem.W.codeIn K cd28 "Hall.come" = true) (k28 : PySem.W.keepIn K (.ref f28) = true)
    (i28 : PySem.W.isFn K (.ref f28) = true)
    (a29 : PySem.W.findIn K (.ref C) "pairs" = some (some (.ref f29))) (l29 : K.lookup f29 = some ⟨oc29, od29, .func (PySem.W.fnOf "pairs" "Hall.pairs" (defArgs s_Hall_pairs) (defBody s_Hall_pairs) (defScope s_Hall_pairs) .none kV29 dc29 pm29 an29 cd29 ct29), sl29⟩) (c29 : PySem.W.codeIn K cd29 "Hall.pairs" = true) (k29 : PySem.W.keepIn K (.ref f29) = true)
    (i29 : PySem.W.isFn K (.ref f29) = true)
    (a30 : PySem.W.findIn K (.ref C) "need_pair" = some (some (.ref f30))) (l30 : K.lookup f30 = some ⟨oc30, od30, .func (PySem.W.fnOf "need_pair" "Hall.need_pair" (defArgs s_Hall_need_pair) (defBody s_Hall_need_pair) (defScope s_Hall_need_pair) .none kV30 dc30 pm30 an30 cd30 ct30), sl30⟩) (c30 : PySem.W.codeIn K cd30 "Hall.need_pair" = true) (k30 : PySem.W.keepIn K (.ref f30) = true)
    (i30 : PySem.W.isFn K (.ref f30) = true)
    (a31 : PySem.W.findIn K (.ref C) "go" = some (some (.ref f31))) (l31 : K.lookup f31 = some ⟨oc31, od31, .func (PySem.W.fnOf "go" "Hall.go" (defArgs s_Hall_go) (defBody s_Hall_go) (defScope s_Hall_go) .none kV31 dc31 pm31 an31 cd31 ct31), sl31⟩) (c31 : PySem.W.codeIn K cd31 "Hall.go" = true) (k31 : PySem.W.keepIn K (.ref f31) = true)
    (i31 : PySem.W.isFn K (.ref f31) = true)
    (xg0 : PySem.W.nsIn K mainGlobals "BadSide" = some (some (.ref e0)))
    (xq0 : PySem.W.excIn K e0 veB "ValueError.__new__" = true)
    (xk0 : PySem.W.keepIn K (.ref e0) = true)
    (xb0 : PySem.W.subIn K (.ref e0) (.type "BaseException") = some true)
    (xt0 : PySem.W.typeIn K (.ref e0) = some (.type "type"))
    (xg1 : PySem.W.nsIn K mainGlobals "BadEnd" = some (some (.ref e1)))
    (xq1 : PySem.W.excIn K e1 veB "ValueError.__new__" = true)
    (xk1 : PySem.W.keepIn K (.ref e1) = true)
    (xb1 : PySem.W.subIn K (.ref e1) (.type "BaseException") = some true)
    (xt1 : PySem.W.typeIn K (.ref e1) = some (.type "type"))
    (xg2 : PySem.W.nsIn K mainGlobals "BadCount" = some (some (.ref e2)))
    (xq2 : PySem.W.excIn K e2 veB "ValueError.__new__" = true)
    (xk2 : PySem.W.keepIn K (.ref e2) = true)
    (xb2 : PySem.W.subIn K (.ref e2) (.type "BaseException") = some true)
    (xt2 : PySem.W.typeIn K (.ref e2) = some (.type "type"))
    (xg3 : PySem.W.nsIn K mainGlobals "TooMany" = some (some (.ref e3)))
    (xq3 : PySem.W.excIn K e3 veB "ValueError.__new__" = true)
    (xk3 : PySem.W.keepIn K (.ref e3) = true)
    (xb3 : PySem.W.subIn K (.ref e3) (.type "BaseException") = some true)
    (xt3 : PySem.W.typeIn K (.ref e3) = some (.type "type"))
    (xg4 : PySem.W.nsIn K mainGlobals "NoPair" = some (some (.ref e4)))
    (xq4 : PySem.W.excIn K e4 veB "ValueError.__new__" = true)
    (xk4 : PySem.W.keepIn K (.ref e4) = true)
    (xb4 : PySem.W.subIn K (.ref e4) (.type "BaseException") = some true)
    (xt4 : PySem.W.typeIn K (.ref e4) = some (.type "type"))
    (xi1 : PySem.W.isClsIn K e1 = true) (xs1 : PySem.W.subIn K (.ref e1) (.ref e1) = some true)
    (xi3 : PySem.W.isClsIn K e3 = true) (xs3 : PySem.W.subIn K (.ref e3) (.ref e3) = some true)
    (xi4 : PySem.W.isClsIn K e4 = true) (xs4 : PySem.W.subIn K (.ref e4) (.ref e4) = some true)
    (qg : PySem.W.nsIn K mainGlobals "PairError" = some (some (.ref pe)))
    (qb : PySem.W.subIn K (.ref pe) (.type "BaseException") = some true)
    (qd : PySem.W.hasDictIn K pe = true)
    (qt : PySem.W.typeIn K (.ref pe) = some (.type "type"))
    (lg : PySem.W.nsIn K mainGlobals "BadLine" = some (some (.ref ln)))
    (li : PySem.W.isClsIn K ln = true)
    (lt : PySem.W.typeIn K (.ref ln) = some (.type "type"))
    (lss : PySem.W.subIn K (.ref ln) (.ref ln) = some true)
    (lup : PySem.W.subIn K (.ref ln) (.ref pe) = some true)
    (lyg : PySem.W.findIn K (.ref ln) "__getattribute__" = some (some (.builtin "BaseException.__getattribute__")))
    (lyk : PySem.W.findIn K (.ref ln) "__getattr__" = some none)
    (lyd : PySem.W.hasDictIn K ln = true)
    (lya : PySem.W.findIn K (.ref ln) "__class__" = some (some (.builtin "object.__class__")))
    (lym : PySem.W.mroIn K ln (.type "object") = some true)
    (ml1 : PySem.W.subIn K (.ref ln) (.ref e1) = some false)
    (ml3 : PySem.W.subIn K (.ref ln) (.ref e3) = some false)
    (ml4 : PySem.W.subIn K (.ref ln) (.ref e4) = some false)
    (xqL : PySem.W.excIn K ln veB "ValueError.__new__" = true)
    (xkL : PySem.W.keepIn K (.ref ln) = true)
    (xbL : PySem.W.subIn K (.ref ln) (.type "BaseException") = some true)
    (gF : PySem.W.nsIn K mainGlobals "FIGURES" = some (some (.str "0123456789" tF)))
    (yg1 : PySem.W.findIn K (.ref e1) "__getattribute__" = some (some (.builtin "BaseException.__getattribute__")))
    (yk1 : PySem.W.findIn K (.ref e1) "__getattr__" = some none)
    (yd1 : PySem.W.hasDictIn K e1 = true)
    (ya1 : PySem.W.findIn K (.ref e1) "__class__" = some (some (.builtin "object.__class__")))
    (ym1 : PySem.W.mroIn K e1 (.type "object") = some true)
    (up1 : PySem.W.subIn K (.ref e1) (.ref pe) = some true)
    (no1_3 : PySem.W.subIn K (.ref e1) (.ref e3) = some false)
    (no1_4 : PySem.W.subIn K (.ref e1) (.ref e4) = some false)
    (yg3 : PySem.W.findIn K (.ref e3) "__getattribute__" = some (some (.builtin "BaseException.__getattribute__")))
    (yk3 : PySem.W.findIn K (.ref e3) "__getattr__" = some none)
    (yd3 : PySem.W.hasDictIn K e3 = true)
    (ya3 : PySem.W.findIn K (.ref e3) "__class__" = some (some (.builtin "object.__class__")))
    (ym3 : PySem.W.mroIn K e3 (.type "object") = some true)
    (up3 : PySem.W.subIn K (.ref e3) (.ref pe) = some true)
    (no3_1 : PySem.W.subIn K (.ref e3) (.ref e1) = some false)
    (no3_4 : PySem.W.subIn K (.ref e3) (.ref e4) = some false)
    (yg4 : PySem.W.findIn K (.ref e4) "__getattribute__" = some (some (.builtin "BaseException.__getattribute__")))
    (yk4 : PySem.W.findIn K (.ref e4) "__getattr__" = some none)
    (yd4 : PySem.W.hasDictIn K e4 = true)
    (ya4 : PySem.W.findIn K (.ref e4) "__class__" = some (some (.builtin "object.__class__")))
    (ym4 : PySem.W.mroIn K e4 (.type "object") = some true)
    (up4 : PySem.W.subIn K (.ref e4) (.ref pe) = some true)
    (no4_1 : PySem.W.subIn K (.ref e4) (.ref e1) = some false)
    (no4_3 : PySem.W.subIn K (.ref e4) (.ref e3) = some false)
    (yn : PySem.W.specialIn K (.builtin "object.__class__") "__get__" = some (some (.builtin "getset_descriptor.__get__")))
    (yt : PySem.W.takesIn K (.builtin "object.__class__") = some true)
    (gcn0 : PySem.W.nsIn K mainGlobals "MOST_ENDS" = some (some (.int 8 ti0)))
    (gcn1 : PySem.W.nsIn K mainGlobals "MOST_PAIRS" = some (some (.int 40 ti1)))
    (gS : PySem.W.nsIn K mainGlobals "SIDES" = some (some (.ref sd)))
    (lS : K.lookup sd = some ⟨.type "tuple", none, .seq #[.str "left" ts1, .str "right" ts2] tn, sls⟩)
    (z0 : PySem.W.nsIn K mainGlobals "range" = some none)
    (z1 : PySem.W.nsIn K mainGlobals "len" = some none)
    (z2 : PySem.W.nsIn K mainGlobals "dict" = some none)
    (z3 : PySem.W.nsIn K mainGlobals "min" = some none)
    (z4 : PySem.W.nsIn K mainGlobals "isinstance" = some none)
    (z5 : PySem.W.nsIn K mainGlobals "int" = some none)
    (z6 : PySem.W.nsIn K mainGlobals "bool" = some none)
    (z7 : PySem.W.nsIn K mainGlobals "str" = some none)
    (z8 : PySem.W.nsIn K mainGlobals "max" = some none)
    (z9 : PySem.W.nsIn K mainGlobals "list" = some none)
    (z10 : PySem.W.nsIn K mainGlobals "sorted" = some none)
    (z11 : PySem.W.nsIn K mainGlobals "tuple" = some none)
    (z12 : PySem.W.nsIn K mainGlobals "all" = some none)
    : ∃ fd : FuncData, (∀ (s : Shared) (v : Value), BindsTo s fd ⟨[v], []⟩ [("_law_script", v)]) ∧ ∀ base : Heap, K.In base → base.Ns mainGlobals mg → FnOk l.prog w K mg base (L2.CX l.prog w) 9 fa fd ["_law_script"] (spD K S_law) := by
  have e := hfa.symm.trans (PySem.W.mg_of X G a23)
  cases e
  have F_index_of : FdOk K mg "index_of" ["rows"] s_index_of := ⟨_, _, fun_mk l0 c0 k0, PySem.W.mg_of X G a0, (fun_mk (st := s_index_of) l0 c0 k0).binds (ps := ["rows"]) fun _ _ _ _ _ _ us hl => match us, hl with | [_], _ => rfl⟩
  have F_free_at : FdOk K mg "free_at" ["rows", "side", "end", "many"] s_free_at := ⟨_, _, fun_mk l1 c1 k1, PySem.W.mg_of X G a1, (fun_mk (st := s_free_at) l1 c1 k1).binds (ps := ["rows", "side", "end", "many"]) fun _ _ _ _ _ _ us hl => match us, hl with | [_, _, _, _], _ => rfl⟩
  have F_chain_from : FdOk K mg "chain_from" ["rows", "side", "end", "one", "other"] s_chain_from := ⟨_, _, fun_mk l2 c2 k2, PySem.W.mg_of X G a2, (fun_mk (st := s_chain_from) l2 c2 k2).binds (ps := ["rows", "side", "end", "one", "other"]) fun _ _ _ _ _ _ us hl => match us, hl with | [_, _, _, _, _], _ => rfl⟩
  have F_turned : FdOk K mg "turned" ["rows", "numbers", "one", "other"] s_turned := ⟨_, _, fun_mk l3 c3 k3, PySem.W.mg_of X G a3, (fun_mk (st := s_turned) l3 c3 k3).binds (ps := ["rows", "numbers", "one", "other"]) fun _ _ _ _ _ _ us hl => match us, hl with | [_, _, _, _], _ => rfl⟩
  have F_ways : FdOk K mg "ways" ["rows", "ends", "many"] s_ways := ⟨_, _, fun_mk l4 c4 k4, PySem.W.mg_of X G a4, (fun_mk (st := s_ways) l4 c4 k4).binds (ps := ["rows", "ends", "many"]) fun _ _ _ _ _ _ us hl => match us, hl with | [_, _, _], _ => rfl⟩
  have F_hue_given : FdOk K mg "hue_given" ["rows", "ends", "many"] s_hue_given := ⟨_, _, fun_mk l5 c5 k5, PySem.W.mg_of X G a5, (fun_mk (st := s_hue_given) l5 c5 k5).binds (ps := ["rows", "ends", "many"]) fun _ _ _ _ _ _ us hl => match us, hl with | [_, _, _], _ => rfl⟩
  have F_is_among : FdOk K mg "is_among" ["thing", "least", "most"] s_is_among := ⟨_, _, fun_mk l6 c6 k6, PySem.W.mg_of X G a6, (fun_mk (st := s_is_among) l6 c6 k6).binds (ps := ["thing", "least", "most"]) fun _ _ _ _ _ _ us hl => match us, hl with | [_, _, _], _ => rfl⟩
  have F_law_cell_at : FdOk K mg "_law_cell_at" ["_law_script", "_law_k"] s_law_cell_at := ⟨_, _, fun_mk l7 c7 k7, PySem.W.mg_of X G a7, (fun_mk (st := s_law_cell_at) l7 c7 k7).binds (ps := ["_law_script", "_law_k"]) fun _ _ _ _ _ _ us hl => match us, hl with | [_, _], _ => rfl⟩
  have F_law_mixed : FdOk K mg "_law_mixed" ["_law_cell", "_law_k"] s_law_mixed := ⟨_, _, fun_mk l8 c8 k8, PySem.W.mg_of X G a8, (fun_mk (st := s_law_mixed) l8 c8 k8).binds (ps := ["_law_cell", "_law_k"]) fun _ _ _ _ _ _ us hl => match us, hl with | [_, _], _ => rfl⟩
  have F_fulls : FdOk K mg "fulls" ["rows", "side"] s_fulls := ⟨_, _, fun_mk l9 c9 k9, PySem.W.mg_of X G a9, (fun_mk (st := s_fulls) l9 c9 k9).binds (ps := ["rows", "side"]) fun _ _ _ _ _ _ us hl => match us, hl with | [_, _], _ => rfl⟩
  have F_count_of : FdOk K mg "count_of" ["rows"] s_count_of := ⟨_, _, fun_mk l10 c10 k10, PySem.W.mg_of X G a10, (fun_mk (st := s_count_of) l10 c10 k10).binds (ps := ["rows"]) fun _ _ _ _ _ _ us hl => match us, hl with | [_], _ => rfl⟩
  have F_number_in : FdOk K mg "number_in" ["word"] s_number_in := ⟨_, _, fun_mk l11 c11 k11, PySem.W.mg_of X G a11, (fun_mk (st := s_number_in) l11 c11 k11).binds (ps := ["word"]) fun _ _ _ _ _ _ us hl => match us, hl with | [_], _ => rfl⟩
  have F_deed_of : FdOk K mg "deed_of" ["line"] s_deed_of := ⟨_, _, fun_mk l12 c12 k12, PySem.W.mg_of X G a12, (fun_mk (st := s_deed_of) l12 c12 k12).binds (ps := ["line"]) fun _ _ _ _ _ _ us hl => match us, hl with | [_], _ => rfl⟩
  have F_law_sizes_by : FdOk K mg "_law_sizes_by" ["_law_cell"] s_law_sizes_by := ⟨_, _, fun_mk l13 c13 k13, PySem.W.mg_of X G a13, (fun_mk (st := s_law_sizes_by) l13 c13 k13).binds (ps := ["_law_cell"]) fun _ _ _ _ _ _ us hl => match us, hl with | [_], _ => rfl⟩
  have F_law_ends : FdOk K mg "_law_ends" ["_law_cell", "_law_sizes", "_law_rows"] s_law_ends := ⟨_, _, fun_mk l14 c14 k14, PySem.W.mg_of X G a14, (fun_mk (st := s_law_ends) l14 c14 k14).binds (ps := ["_law_cell", "_law_sizes", "_law_rows"]) fun _ _ _ _ _ _ us hl => match us, hl with | [_, _, _], _ => rfl⟩
  have F_law_deed : FdOk K mg "_law_deed" ["_law_cell", "_law_sizes", "_law_rows", "_law_most"] s_law_deed := ⟨_, _, fun_mk l15 c15 k15, PySem.W.mg_of X G a15, (fun_mk (st := s_law_deed) l15 c15 k15).binds (ps := ["_law_cell", "_law_sizes", "_law_rows", "_law_most"]) fun _ _ _ _ _ _ us hl => match us, hl with | [_, _, _, _], _ => rfl⟩
  have F_text_of : FdOk K mg "text_of" ["told"] s_text_of := ⟨_, _, fun_mk l16 c16 k16, PySem.W.mg_of X G a16, (fun_mk (st := s_text_of) l16 c16 k16).binds (ps := ["told"]) fun _ _ _ _ _ _ us hl => match us, hl with | [_], _ => rfl⟩
  have F_law_text : FdOk K mg "_law_text" ["_law_told"] s_law_text := ⟨_, _, fun_mk l17 c17 k17, PySem.W.mg_of X G a17, (fun_mk (st := s_law_text) l17 c17 k17).binds (ps := ["_law_told"]) fun _ _ _ _ _ _ us hl => match us, hl with | [_], _ => rfl⟩
  have F_word_of : FdOk K mg "word_of" ["error"] s_word_of := ⟨_, _, fun_mk l18 c18 k18, PySem.W.mg_of X G a18, (fun_mk (st := s_word_of) l18 c18 k18).binds (ps := ["error"]) fun _ _ _ _ _ _ us hl => match us, hl with | [_], _ => rfl⟩
  have F_done : FdOk K mg "done" ["hall", "line"] s_done := ⟨_, _, fun_mk l19 c19 k19, PySem.W.mg_of X G a19, (fun_mk (st := s_done) l19 c19 k19).binds (ps := ["hall", "line"]) fun _ _ _ _ _ _ us hl => match us, hl with | [_, _], _ => rfl⟩
  have F_play : FdOk K mg "play" ["lefts", "rights", "lines"] s_play := ⟨_, _, fun_mk l20 c20 k20, PySem.W.mg_of X G a20, (fun_mk (st := s_play) l20 c20 k20).binds (ps := ["lefts", "rights", "lines"]) fun _ _ _ _ _ _ us hl => match us, hl with | [_, _, _], _ => rfl⟩
  have F_law_answer : FdOk K mg "_law_answer" ["_law_hall", "_law_deed_here"] s_law_answer := ⟨_, _, fun_mk l21 c21 k21, PySem.W.mg_of X G a21, (fun_mk (st := s_law_answer) l21 c21 k21).binds (ps := ["_law_hall", "_law_deed_here"]) fun _ _ _ _ _ _ us hl => match us, hl with | [_, _], _ => rfl⟩
  have F_law_drawn : FdOk K mg "_law_drawn" ["_law_cell", "_law_sizes", "_law_ends_here", "_law_came"] s_law_drawn := ⟨_, _, fun_mk l22 c22 k22, PySem.W.mg_of X G a22, (fun_mk (st := s_law_drawn) l22 c22 k22).binds (ps := ["_law_cell", "_law_sizes", "_law_ends_here", "_law_came"]) fun _ _ _ _ _ _ us hl => match us, hl with | [_, _, _, _], _ => rfl⟩
  have F_law := fun_mk (st := s_law) l23 c23 k23
  have M_place_of : FdM K C "place_of" "Hall.place_of" ["self", "side", "end"] s_Hall_place_of := ⟨_, _, fun_mk l24 c24 k24, ⟨a24, i24, k24⟩, (fun_mk (st := s_Hall_place_of) l24 c24 k24).binds (ps := ["self", "side", "end"]) fun _ _ _ _ _ _ us hl => match us, hl with | [_, _, _], _ => rfl⟩
  have M_init : FdM K C "__init__" "Hall.__init__" ["self", "lefts", "rights"] s_Hall___init := ⟨_, _, fun_mk l25 c25 k25, ⟨a25, i25, k25⟩, (fun_mk (st := s_Hall___init) l25 c25 k25).binds (ps := ["self", "lefts", "rights"]) fun _ _ _ _ _ _ us hl => match us, hl with | [_, _, _], _ => rfl⟩
  have M_count : FdM K C "count" "Hall.count" ["self"] s_Hall_count := ⟨_, _, fun_mk l26 c26 k26, ⟨a26, i26, k26⟩, (fun_mk (st := s_Hall_count) l26 c26 k26).binds (ps := ["self"]) fun _ _ _ _ _ _ us hl => match us, hl with | [_], _ => rfl⟩
  have M_put : FdM K C "put" "Hall.put" ["self", "number", "left", "right", "many"] s_Hall_put := ⟨_, _, fun_mk l27 c27 k27, ⟨a27, i27, k27⟩, (fun_mk (st := s_Hall_put) l27 c27 k27).binds (ps := ["self", "number", "left", "right", "many"]) fun _ _ _ _ _ _ us hl => match us, hl with | [_, _, _, _, _], _ => rfl⟩
  have M_come : FdM K C "come" "Hall.come" ["self", "left", "right"] s_Hall_come := ⟨_, _, fun_mk l28 c28 k28, ⟨a28, i28, k28⟩, (fun_mk (st := s_Hall_come) l28 c28 k28).binds (ps := ["self", "left", "right"]) fun _ _ _ _ _ _ us hl => match us, hl with | [_, _, _], _ => rfl⟩
  have M_pairs : FdM K C "pairs" "Hall.pairs" ["self"] s_Hall_pairs := ⟨_, _, fun_mk l29 c29 k29, ⟨a29, i29, k29⟩, (fun_mk (st := s_Hall_pairs) l29 c29 k29).binds (ps := ["self"]) fun _ _ _ _ _ _ us hl => match us, hl with | [_], _ => rfl⟩
  have M_need_pair : FdM K C "need_pair" "Hall.need_pair" ["self", "number"] s_Hall_need_pair := ⟨_, _, fun_mk l30 c30 k30, ⟨a30, i30, k30⟩, (fun_mk (st := s_Hall_need_pair) l30 c30 k30).binds (ps := ["self", "number"]) fun _ _ _ _ _ _ us hl => match us, hl with | [_, _], _ => rfl⟩
  have M_go : FdM K C "go" "Hall.go" ["self", "number"] s_Hall_go := ⟨_, _, fun_mk l31 c31 k31, ⟨a31, i31, k31⟩, (fun_mk (st := s_Hall_go) l31 c31 k31).binds (ps := ["self", "number"]) fun _ _ _ _ _ _ us hl => match us, hl with | [_, _], _ => rfl⟩
  have T : HallT K mg C := ⟨⟨pg, hd, po, sa⟩, PySem.W.mg_of X G aC, ns, nr, nc, mk, kc⟩
  let er : Er → Addr := fun r => match r with | .side => e0 | .ends => e1 | .count => e2 | .many => e3 | .pair => e4 | _ => 0
  have X_side : XcF K mg "BadSide" (er .side) := ⟨xq0, PySem.W.mg_of X G xg0, xk0, xb0, xt0⟩
  have X_ends : XcF K mg "BadEnd" (er .ends) := ⟨xq1, PySem.W.mg_of X G xg1, xk1, xb1, xt1⟩
  have X_count : XcF K mg "BadCount" (er .count) := ⟨xq2, PySem.W.mg_of X G xg2, xk2, xb2, xt2⟩
  have X_many : XcF K mg "TooMany" (er .many) := ⟨xq3, PySem.W.mg_of X G xg3, xk3, xb3, xt3⟩
  have X_pair : XcF K mg "NoPair" (er .pair) := ⟨xq4, PySem.W.mg_of X G xg4, xk4, xb4, xt4⟩
  have g_BL : mg "BadLine" = some (.ref ln) := PySem.W.mg_of X G lg
  have X_line : XcF K mg "BadLine" ln := ⟨xqL, PySem.W.mg_of X G lg, xkL, xbL, lt⟩
  have g_FIG : ∃ t, mg "FIGURES" = some (.str digs t) := ⟨tF, PySem.W.mg_of X G gF⟩
  have g_PE : mg "PairError" = some (.ref pe) := PySem.W.mg_of X G qg
  have XC_ends : ExcC K (er .ends) := ⟨yg1, yk1, xb1, yd1, ya1, yn, yt, ym1⟩
  have px_ends : PySem.W.exmOne K (.ref (er .ends)) (.ref pe) = some true := PySem.W.exm_ref qb qd qt up1
  have ki_ends_many : PySem.W.kitOne K (.ref (er .ends)) (.ref (er .many)) = some false := kit_other xs1 xi3 xt3 no1_3
  have ki_ends_pair : PySem.W.kitOne K (.ref (er .ends)) (.ref (er .pair)) = some false := kit_other xs1 xi4 xt4 no1_4
  have XC_many : ExcC K (er .many) := ⟨yg3, yk3, xb3, yd3, ya3, yn, yt, ym3⟩
  have px_many : PySem.W.exmOne K (.ref (er .many)) (.ref pe) = some true := PySem.W.exm_ref qb qd qt up3
  have ki_many_ends : PySem.W.kitOne K (.ref (er .many)) (.ref (er .ends)) = some false := kit_other xs3 xi1 xt1 no3_1
  have ki_many_pair : PySem.W.kitOne K (.ref (er .many)) (.ref (er .pair)) = some false := kit_other xs3 xi4 xt4 no3_4
  have XC_pair : ExcC K (er .pair) := ⟨yg4, yk4, xb4, yd4, ya4, yn, yt, ym4⟩
  have px_pair : PySem.W.exmOne K (.ref (er .pair)) (.ref pe) = some true := PySem.W.exm_ref qb qd qt up4
  have ki_pair_ends : PySem.W.kitOne K (.ref (er .pair)) (.ref (er .ends)) = some false := kit_other xs4 xi1 xt1 no4_1
  have ki_pair_many : PySem.W.kitOne K (.ref (er .pair)) (.ref (er .many)) = some false := kit_other xs4 xi3 xt3 no4_3
  have WT : WordT K er pe ln := by
    refine ⟨fun r => ?_, fun r => ?_, fun r => ?_, fun r => ?_, fun r => ?_⟩
    · match r with
      | .ends => exact kit_same
      | .many => exact ki_many_ends
      | .pair => exact ki_pair_ends
      | .line => exact kit_other lss xi1 xt1 ml1
    · match r with
      | .ends => exact ki_ends_many
      | .many => exact kit_same
      | .pair => exact ki_pair_many
      | .line => exact kit_other lss xi3 xt3 ml3
    · match r with
      | .ends => exact ki_ends_pair
      | .many => exact ki_many_pair
      | .pair => exact kit_same
      | .line => exact kit_other lss xi4 xt4 ml4
    · match r with
      | .ends => exact XC_ends
      | .many => exact XC_many
      | .pair => exact XC_pair
      | .line => exact ⟨lyg, lyk, xbL, lyd, lya, yn, yt, lym⟩
    · match r with
      | .ends => exact px_ends
      | .many => exact px_many
      | .pair => exact px_pair
      | .line => exact PySem.W.exm_ref qb qd qt lup
  have g_MOST_ENDS : ∃ t, mg "MOST_ENDS" = some (.int 8 t) := ⟨ti0, PySem.W.mg_of X G gcn0⟩
  have g_MOST_PAIRS : ∃ t, mg "MOST_PAIRS" = some (.int 40 t) := ⟨ti1, PySem.W.mg_of X G gcn1⟩
  have g_SIDES := PySem.W.mg_of X G gS
  have kt : KTup K sd sides := ⟨_, _, _, lS, rfl, rfl, rfl, by show 2 ≤ sizeLine; decide, .cons ⟨ts1, rfl⟩ (.cons ⟨ts2, rfl⟩ .nil)⟩
  have n_range := PySem.W.mg_none_of X G z0
  have n_len := PySem.W.mg_none_of X G z1
  have n_dict := PySem.W.mg_none_of X G z2
  have n_min := PySem.W.mg_none_of X G z3
  have n_isinstance := PySem.W.mg_none_of X G z4
  have n_int := PySem.W.mg_none_of X G z5
  have n_bool := PySem.W.mg_none_of X G z6
  have n_str := PySem.W.mg_none_of X G z7
  have n_max := PySem.W.mg_none_of X G z8
  have n_list := PySem.W.mg_none_of X G z9
  have n_sorted := PySem.W.mg_none_of X G z10
  have n_tuple := PySem.W.mg_none_of X G z11
  have n_all := PySem.W.mg_none_of X G z12
  refine ⟨PySem.W.fnOf "law" "law" (defArgs s_law) (defBody s_law) (defScope s_law) .none kV23 dc23 pm23 an23 cd23 ct23, fun s v => .of_eq rfl, fun base _ _ => ?_⟩
  have GF_index_of := ok_index_of (P := l.prog) (w := w) (base := base) F_index_of
  have GF_free_at := ok_free_at (P := l.prog) (w := w) (base := base) F_free_at GF_index_of n_range
  have GF_chain_from := ok_chain_from (P := l.prog) (w := w) (base := base) F_chain_from GF_index_of n_len
  have GF_turned := ok_turned (P := l.prog) (w := w) (base := base) F_turned n_dict
  have GF_ways := ok_ways (P := l.prog) (w := w) (base := base) F_ways GF_free_at GF_chain_from n_range n_len
  have GF_hue_given := ok_hue_given (P := l.prog) (w := w) (base := base) F_hue_given GF_free_at GF_ways GF_turned n_min
  have GF_is_among := ok_is_among (P := l.prog) (w := w) (base := base) F_is_among n_isinstance n_int n_bool
  have GM_place_of := ok_place_of (er := er) (P := l.prog) (w := w) (base := base) M_place_of T GF_is_among g_SIDES kt X_side X_ends n_isinstance n_str
  have GF__law_cell_at := ok_cell_at (P := l.prog) (w := w) (base := base) F_law_cell_at n_len
  have GF__law_mixed := ok_mixed (P := l.prog) (w := w) (base := base) F_law_mixed
  have GF_fulls := ok_fulls (P := l.prog) (w := w) (base := base) F_fulls
  have GF_count_of := ok_count_of (P := l.prog) (w := w) (base := base) F_count_of GF_fulls n_max n_list
  have GM___init__ := ok_init (er := er) (P := l.prog) (w := w) (base := base) M_init T GF_is_among g_MOST_ENDS X_count
  have GM_count := ok_count (P := l.prog) (w := w) (base := base) M_count T GF_count_of n_list
  have GM_put := ok_put (P := l.prog) (w := w) (base := base) M_put T GF_hue_given n_list n_dict
  have GM_come := ok_come (er := er) (P := l.prog) (w := w) (base := base) M_come T GM_place_of GM_put GF_count_of g_MOST_PAIRS X_many n_len n_list
  have GM_pairs := ok_pairs (P := l.prog) (w := w) (base := base) M_pairs T n_sorted
  have GM_need_pair := ok_need (er := er) (P := l.prog) (w := w) (base := base) M_need_pair T GF_is_among X_pair
  have GM_go := ok_go (er := er) (P := l.prog) (w := w) (base := base) M_go T GM_need_pair GM_count GM_put n_dict n_sorted
  have GF_number_in := ok_number_in (P := l.prog) (w := w) (base := base) F_number_in X_line g_FIG n_len n_int
  have GF_deed_of := ok_deed_of (P := l.prog) (w := w) (base := base) F_deed_of X_line GF_number_in n_len n_isinstance n_str n_tuple
  have GF__law_sizes_by := ok_sizes_by (P := l.prog) (w := w) (base := base) F_law_sizes_by
  have GF__law_ends := ok_law_ends (P := l.prog) (w := w) (base := base) F_law_ends n_range n_list n_len
  have GF__law_deed := ok_law_deed (P := l.prog) (w := w) (base := base) F_law_deed GF__law_ends n_len n_sorted
  have GF_text_of := ok_text_of (P := l.prog) (w := w) (base := base) F_text_of n_str
  have GF__law_text := ok_law_text (P := l.prog) (w := w) (base := base) F_law_text n_str
  have GE_word_of := ok_word_of (er := er) (P := l.prog) (w := w) (base := base) F_word_of WT X_ends X_many X_pair n_isinstance
  have GF_done := ok_done (er := er) (P := l.prog) (w := w) (base := base) F_done T WT GF_deed_of GF_text_of GE_word_of GM_come GM_go g_PE
  have GF_play := ok_play (er := er) (P := l.prog) (w := w) (base := base) F_play T GM___init__ GF_done
  have GF__law_answer := ok_answer (er := er) (P := l.prog) (w := w) (base := base) F_law_answer T WT GF__law_text GM_come GM_go X_ends X_many X_pair g_PE n_isinstance n_int
  have GF__law_drawn := ok_drawn (P := l.prog) (w := w) (base := base) F_law_drawn GF__law_deed
  exact ok_law (er := er) (P := l.prog) (w := w) (base := base) F_law T GF__law_cell_at GF__law_mixed GF__law_sizes_by GM___init__ GM_pairs GF__law_drawn GF__law_answer GF_play n_len n_int n_range n_min n_max n_isinstance n_str n_list n_dict n_all
end Ph
open PySem PySem.W PyProof.Rows
set_option maxRecDepth 100000 in
set_option maxHeartbeats 0 in
theorem PySem.Challenge.cw_pairhues_k11_whole_lines_played_holds : PySem.Challenge.rw_pairhues_k11_whole_lines_played.Holds := by
  w_on; o_law; k_head; (case hw => w_witness2)
  k_fill
  refine D4.law_end (l := PySem.Challenge.rw_pairhues_k11_whole_lines_played) (k := 9) (P := Ph.P_law) (x := "_law_script") rfl rfl ⟨rfl, by decide, by decide⟩ Ph.P_law_ok (fun w h Y => PySem.W.kIn_of Y) ?F
  case F =>
    intro w mg fa h KX G hmg
    refine' Ph.all_mk KX G hmg ?a0 ?l0 ?c0 ?k0 ?a1 ?l1 ?c1 ?k1 ?a2 ?l2 ?c2 ?k2 ?a3 ?l3 ?c3 ?k3 ?a4 ?l4 ?c4 ?k4 ?a5 ?l5 ?c5 ?k5 ?a6 ?l6 ?c6 ?k6 ?a7 ?l7 ?c7 ?k7 ?a8 ?l8 ?c8 ?k8 ?a9 ?l9 ?c9 ?k9 ?a10 ?l10 ?c10 ?k10 ?a11 ?l11 ?c11 ?k11 ?a12 ?l12 ?c12 ?k12 ?a13 ?l13 ?c13 ?k13 ?a14 ?l14 ?c14 ?k14 ?a15 ?l15 ?c15 ?k15 ?a16 ?l16 ?c16 ?k16 ?a17 ?l17 ?c17 ?k17 ?a18 ?l18 ?c18 ?k18 ?a19 ?l19 ?c19 ?k19 ?a20 ?l20 ?c20 ?k20 ?a21 ?l21 ?c21 ?k21 ?a22 ?l22 ?c22 ?k22 ?a23 ?l23 ?c23 ?k23 ?aC ?pg ?hd ?po ?sa ?mk ?kc ?ns ?nr ?nc ?a24 ?l24 ?c24 ?k24 ?i24 ?a25 ?l25 ?c25 ?k25 ?i25 ?a26 ?l26 ?c26 ?k26 ?i26 ?a27 ?l27 ?c27 ?k27 ?i27 ?a28 ?l28 ?c28 ?k28 ?i28 ?a29 ?l29 ?c29 ?k29 ?i29 ?a30 ?l30 ?c30 ?k30 ?i30 ?a31 ?l31 ?c31 ?k31 ?i31 ?xg0 ?xq0 ?xk0 ?xb0 ?xt0 ?xg1 ?xq1 ?xk1 ?xb1 ?xt1 ?xg2 ?xq2 ?xk2 ?xb2 ?xt2 ?xg3 ?xq3 ?xk3 ?xb3 ?xt3 ?xg4 ?xq4 ?xk4 ?xb4 ?xt4 ?xi1 ?xs1 ?xi3 ?xs3 ?xi4 ?xs4 ?qg ?qb ?qd ?qt ?lg ?li ?lt ?lss ?lup ?lyg ?lyk ?lyd ?lya ?lym ?ml1 ?ml3 ?ml4 ?xqL ?xkL ?xbL ?gF ?yg1 ?yk1 ?yd1 ?ya1 ?ym1 ?up1 ?no1_3 ?no1_4 ?yg3 ?yk3 ?yd3 ?ya3 ?ym3 ?up3 ?no3_1 ?no3_4 ?yg4 ?yk4 ?yd4 ?ya4 ?ym4 ?up4 ?no4_1 ?no4_3 ?yn ?yt ?gcn0 ?gcn1 ?gS ?lS ?z0 ?z1 ?z2 ?z3 ?z4 ?z5 ?z6 ?z7 ?z8 ?z9 ?z10 ?z11 ?z12
    (case a0 => k_is); (case l0 => k_is); (case c0 => k_is); (case k0 => k_is); (case a1 => k_is); (case l1 => k_is)
    (case c1 => k_is); (case k1 => k_is); (case a2 => k_is); (case l2 => k_is); (case c2 => k_is); (case k2 => k_is)
    (case a3 => k_is); (case l3 => k_is); (case c3 => k_is); (case k3 => k_is); (case a4 => k_is); (case l4 => k_is)
    (case c4 => k_is); (case k4 => k_is); (case a5 => k_is); (case l5 => k_is); (case c5 => k_is); (case k5 => k_is)
    (case a6 => k_is); (case l6 => k_is); (case c6 => k_is); (case k6 => k_is); (case a7 => k_is); (case l7 => k_is)
    (case c7 => k_is); (case k7 => k_is); (case a8 => k_is); (case l8 => k_is); (case c8 => k_is); (case k8 => k_is)
    (case a9 => k_is); (case l9 => k_is); (case c9 => k_is); (case k9 => k_is); (case a10 => k_is); (case l10 => k_is)
    (case c10 => k_is); (case k10 => k_is); (case a11 => k_is); (case l11 => k_is); (case c11 => k_is); (case k11 => k_is)
    (case a12 => k_is); (case l12 => k_is); (case c12 => k_is); (case k12 => k_is); (case a13 => k_is); (case l13 => k_is)
    (case c13 => k_is); (case k13 => k_is); (case a14 => k_is); (case l14 => k_is); (case c14 => k_is); (case k14 => k_is)
    (case a15 => k_is); (case l15 => k_is); (case c15 => k_is); (case k15 => k_is); (case a16 => k_is); (case l16 => k_is)
    (case c16 => k_is); (case k16 => k_is); (case a17 => k_is); (case l17 => k_is); (case c17 => k_is); (case k17 => k_is)
    (case a18 => k_is); (case l18 => k_is); (case c18 => k_is); (case k18 => k_is); (case a19 => k_is); (case l19 => k_is)
    (case c19 => k_is); (case k19 => k_is); (case a20 => k_is); (case l20 => k_is); (case c20 => k_is); (case k20 => k_is)
    (case a21 => k_is); (case l21 => k_is); (case c21 => k_is); (case k21 => k_is); (case a22 => k_is); (case l22 => k_is)
    (case c22 => k_is); (case k22 => k_is); (case a23 => k_is); (case l23 => k_is); (case c23 => k_is); (case k23 => k_is)
    (case aC => k_is); (case pg => k_is); (case hd => k_is); (case po => k_is); (case sa => k_is); (case mk => k_is)
    (case kc => k_is); (case ns => k_is); (case nr => k_is); (case nc => k_is); (case a24 => k_is); (case l24 => k_is)
    (case c24 => k_is); (case k24 => k_is); (case i24 => k_is); (case a25 => k_is); (case l25 => k_is); (case c25 => k_is)
    (case k25 => k_is); (case i25 => k_is); (case a26 => k_is); (case l26 => k_is); (case c26 => k_is); (case k26 => k_is)
    (case i26 => k_is); (case a27 => k_is); (case l27 => k_is); (case c27 => k_is); (case k27 => k_is); (case i27 => k_is)
    (case a28 => k_is); (case l28 => k_is); (case c28 => k_is); (case k28 => k_is); (case i28 => k_is); (case a29 => k_is)
    (case l29 => k_is); (case c29 => k_is); (case k29 => k_is); (case i29 => k_is); (case a30 => k_is); (case l30 => k_is)
    (case c30 => k_is); (case k30 => k_is); (case i30 => k_is); (case a31 => k_is); (case l31 => k_is); (case c31 => k_is)
    (case k31 => k_is); (case i31 => k_is); (case xg0 => k_is); (case xq0 => k_exc); (case xk0 => k_is); (case xb0 => k_is)
    (case xt0 => k_is); (case xg1 => k_is); (case xq1 => k_exc); (case xk1 => k_is); (case xb1 => k_is); (case xt1 => k_is)
    (case xg2 => k_is); (case xq2 => k_exc); (case xk2 => k_is); (case xb2 => k_is); (case xt2 => k_is); (case xg3 => k_is)
    (case xq3 => k_exc); (case xk3 => k_is); (case xb3 => k_is); (case xt3 => k_is); (case xg4 => k_is); (case xq4 => k_exc)
    (case xk4 => k_is); (case xb4 => k_is); (case xt4 => k_is); (case xi1 => k_is); (case xs1 => k_is); (case xi3 => k_is)
    (case xs3 => k_is); (case xi4 => k_is); (case xs4 => k_is); (case qg => k_is); (case qb => k_is); (case qd => k_is)
    (case qt => k_is); (case lg => k_is); (case li => k_is); (case lt => k_is); (case lss => k_is); (case lup => k_is)
    (case lyg => k_is); (case lyk => k_is); (case lyd => k_is); (case lya => k_is); (case lym => k_is); (case ml1 => k_is)
    (case ml3 => k_is); (case ml4 => k_is); (case xqL => k_exc); (case xkL => k_is); (case xbL => k_is); (case gF => k_is)
    (case yg1 => k_is); (case yk1 => k_is); (case yd1 => k_is); (case ya1 => k_is); (case ym1 => k_is); (case up1 => k_is)
    (case no1_3 => k_is); (case no1_4 => k_is); (case yg3 => k_is); (case yk3 => k_is); (case yd3 => k_is); (case ya3 => k_is)
    (case ym3 => k_is); (case up3 => k_is); (case no3_1 => k_is); (case no3_4 => k_is); (case yg4 => k_is); (case yk4 => k_is)
    (case yd4 => k_is); (case ya4 => k_is); (case ym4 => k_is); (case up4 => k_is); (case no4_1 => k_is); (case no4_3 => k_is)
    (case yn => k_is); (case yt => k_is); (case gcn0 => k_is); (case gcn1 => k_is); (case gS => k_is); (case lS => k_is)
    (case z0 => k_is); (case z1 => k_is); (case z2 => k_is); (case z3 => k_is); (case z4 => k_is); (case z5 => k_is)
    (case z6 => k_is); (case z7 => k_is); (case z8 => k_is); (case z9 => k_is); (case z10 => k_is); (case z11 => k_is)
    (case z12 => k_is)
end
