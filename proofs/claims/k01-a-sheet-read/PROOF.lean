import PyProof.Rows.All
import Wide.All
import OpenK.AllK
import Wide.FinOn
import HandS.ForMost
import HandS.Walk
import HandS.Evl
import HandS.ForExc
import HandS.StrMore
import HandS.IsInst
import PySem.Challenge.RW_crosswright_k01_a_sheet_read
set_option Elab.async false
set_option linter.all false
set_option maxRecDepth 100000
set_option maxHeartbeats 4000000
namespace CW
open PySem L2
abbrev Fg := PySem.W.Frag
/-! ### plain data -/
inductive D where
  | non | bl (b : Bool) | int (i : Int) | str (l : List Nat) | tup (ds : List D) | lst (ds : List D) | ro (ds : List D) | raw (v : V)
/-- a text by its signs -/
abbrev S (l : List Nat) : Str := ⟨l.toArray⟩
theorem S_tl (x : Str) : S x.cps.toList = x := by cases x; simp [S]
theorem S_len (l : List Nat) : (S l).length = l.length := by simp [Str.length]
theorem S_app (l m : List Nat) : S l ++ S m = S (l ++ m) := by
  show Str.append (S l) (S m) = _
  simp [Str.append]
theorem S_inj {l m : List Nat} (h : S l = S m) : l = m := by
  have := congrArg (fun z : Str => z.cps.toList) h
  simpa using this
mutual
/-- a value tells data, by what stands in the heap -/
inductive Rp (K : Fg) (H : Hp) : V → D → Prop
  | non : Rp K H .non .non
  | bl (b : Bool) : Rp K H (.bl b) (.bl b)
  | int (i : Int) : Rp K H (.int i) (.int i)
  | str (l : List Nat) : Rp K H (.str (S l)) (.str l)
  | tup {a : Addr} {xs : List V} {ds : List D} : SqT K H a xs → RpAll K H xs ds → Rp K H (.ref a) (.tup ds)
  | lst {a : Addr} {xs : List V} {ds : List D} : H a = some (.lst xs) → RpAll K H xs ds → Rp K H (.ref a) (.lst ds)
  | ro {a : Addr} {xs : List V} {ds : List D} : SqL K H a xs → RpAll K H xs ds → Rp K H (.ref a) (.ro ds)
  | raw (v : V) : Rp K H v (.raw v)
inductive RpAll (K : Fg) (H : Hp) : List V → List D → Prop
  | nil : RpAll K H [] []
  | cons {v : V} {vs : List V} {d : D} {ds : List D} : Rp K H v d → RpAll K H vs ds → RpAll K H (v :: vs) (d :: ds)
end
theorem sqT_mono {K : Fg} {H H' : Hp} {a : Addr} {xs : List V} (e : Same H H') (h : SqT K H a xs) : SqT K H' a xs := by
  rcases h with (h | ⟨o, h⟩) | h
  · exact .inl (.inl (e _ _ h))
  · exact .inl (.inr ⟨o, e _ _ h⟩)
  · exact .inr h
mutual
theorem Rp.mono {K : Fg} {H H' : Hp} (e : Same H H') : ∀ {v : V} {d : D}, Rp K H v d → Rp K H' v d
  | _, _, .non => .non
  | _, _, .bl b => .bl b
  | _, _, .int i => .int i
  | _, _, .str l => .str l
  | _, _, .tup s a => .tup (sqT_mono e s) (RpAll.mono e a)
  | _, _, .lst s a => .lst (e _ _ s) (RpAll.mono e a)
  | _, _, .ro s a => .ro (Same.seq e s) (RpAll.mono e a)
  | _, _, .raw v => .raw v
theorem RpAll.mono {K : Fg} {H H' : Hp} (e : Same H H') : ∀ {vs : List V} {ds : List D}, RpAll K H vs ds → RpAll K H' vs ds
  | _, _, .nil => .nil
  | _, _, .cons h t => .cons (Rp.mono e h) (RpAll.mono e t)
end
section
variable {K : Fg} {H : Hp}
theorem RpAll.length : ∀ {vs : List V} {ds : List D}, RpAll K H vs ds → vs.length = ds.length
  | _, _, .nil => rfl
  | _, _, .cons _ t => congrArg (· + 1) (RpAll.length t)
theorem RpAll.get : ∀ {vs : List V} {ds : List D} {i : Nat} {d : D}, RpAll K H vs ds → ds[i]? = some d → ∃ v, vs[i]? = some v ∧ Rp K H v d
  | _, _, _, _, .nil, e => by simp at e
  | _, _, 0, _, .cons h _, e => by simp at e; subst e; exact ⟨_, rfl, h⟩
  | _, _, i + 1, d, .cons _ t, e => by
    obtain ⟨v, h1, h2⟩ := RpAll.get (i := i) (d := d) t (by simpa using e)
    exact ⟨v, by simpa using h1, h2⟩
theorem RpAll.getV : ∀ {vs : List V} {ds : List D} {i : Nat} {v : V}, RpAll K H vs ds → vs[i]? = some v → ∃ d, ds[i]? = some d ∧ Rp K H v d
  | _, _, _, _, .nil, e => by simp at e
  | _, _, 0, _, .cons h _, e => by simp at e; subst e; exact ⟨_, rfl, h⟩
  | _, _, i + 1, d, .cons _ t, e => by
    obtain ⟨v, h1, h2⟩ := RpAll.getV (i := i) (v := d) t (by simpa using e)
    exact ⟨v, by simpa using h1, h2⟩
theorem RpAll.app : ∀ {vs ws : List V} {ds es : List D}, RpAll K H vs ds → RpAll K H ws es → RpAll K H (vs ++ ws) (ds ++ es)
  | _, _, _, _, .nil, s => s
  | _, _, _, _, .cons h t, s => .cons h (RpAll.app t s)
theorem RpAll.snoc {vs : List V} {ds : List D} {v : V} {d : D} (h : RpAll K H vs ds) (r : Rp K H v d) : RpAll K H (vs ++ [v]) (ds ++ [d]) := h.app (.cons r .nil)
theorem RpAll.set {v : V} {d : D} (r : Rp K H v d) : ∀ {vs : List V} {ds : List D} (i : Nat), RpAll K H vs ds → RpAll K H (vs.set i v) (ds.set i d)
  | _, _, _, .nil => .nil
  | _, _, 0, .cons _ t => .cons r t
  | _, _, i + 1, .cons q t => .cons q (RpAll.set r i t)
theorem RpAll.take : ∀ {vs : List V} {ds : List D} (n : Nat), RpAll K H vs ds → RpAll K H (vs.take n) (ds.take n)
  | _, _, 0, _ => .nil
  | _, _, _ + 1, .nil => .nil
  | _, _, n + 1, .cons r t => .cons r (RpAll.take n t)
theorem RpAll.drop : ∀ {vs : List V} {ds : List D} (n : Nat), RpAll K H vs ds → RpAll K H (vs.drop n) (ds.drop n)
  | _, _, 0, r => r
  | _, _, _ + 1, .nil => .nil
  | _, _, n + 1, .cons _ t => RpAll.drop n t
theorem RpAll.rev : ∀ {vs : List V} {ds : List D}, RpAll K H vs ds → RpAll K H vs.reverse ds.reverse
  | _, _, .nil => .nil
  | _, _, .cons r t => by
    rw [List.reverse_cons, List.reverse_cons]
    exact (RpAll.rev t).snoc r
theorem rp_ints : ∀ (ns : List Int), RpAll K H (ns.map V.int) (ns.map D.int)
  | [] => .nil
  | n :: ns => .cons (.int n) (rp_ints ns)
theorem rp_strs : ∀ {vs : List V} {ls : List (List Nat)}, RpAll K H vs (ls.map D.str) → vs = ls.map fun l => V.str (S l)
  | _, [], h => by cases h; rfl
  | _, l :: ls, h => by
    cases h with
    | cons h1 h2 =>
      cases h1
      rw [List.map_cons, ← rp_strs h2]
theorem rp_intsV : ∀ {vs : List V} {ls : List Int}, RpAll K H vs (ls.map D.int) → vs = ls.map V.int
  | _, [], h => by cases h; rfl
  | _, l :: ls, h => by
    cases h with
    | cons h1 h2 =>
      cases h1
      rw [List.map_cons, ← rp_intsV h2]
theorem rp_blsV : ∀ {vs : List V} {ls : List Bool}, RpAll K H vs (ls.map D.bl) → vs = ls.map V.bl
  | _, [], h => by cases h; rfl
  | _, l :: ls, h => by
    cases h with
    | cons h1 h2 =>
      cases h1
      rw [List.map_cons, ← rp_blsV h2]
end
/-! ### what stands open: objects that are being changed -/
structure Rsc where
  at_ : Fg → Hp → Hp → List Addr → Prop
  mono : ∀ {K Hc Hc' H H' F}, Same Hc Hc' → (∀ a ∈ F, H' a = H a) → at_ K Hc H F → at_ K Hc' H' F
  there : ∀ {K Hc H F}, at_ K Hc H F → ∀ a ∈ F, H a ≠ none
/-- a list of data at p -/
def rLst (p : Addr) (ds : List D) : Rsc where
  at_ := fun K Hc H F => F = [p] ∧ ∃ vs, H p = some (.lst vs) ∧ RpAll K Hc vs ds
  mono := fun e k ⟨f, vs, h, r⟩ => ⟨f, vs, by rw [k p (by simp [f])]; exact h, r.mono e⟩
  there := fun ⟨f, vs, h, r⟩ a ha => by
    rw [f] at ha
    have e : a = p := by simpa using ha
    rw [e, h]
    simp
/-- the context of a def's run: the written part, the heap at the entry, its closed part, what may be changed -/
structure Cn where
  K : Fg
  H0 : Hp
  C0 : Hp
  M : List Addr
inductive RsAll (K : Fg) (Hc H : Hp) : List Rsc → List (List Addr) → Prop
  | nil : RsAll K Hc H [] []
  | cons {r : Rsc} {F : List Addr} {O : List Rsc} {Fs : List (List Addr)} : r.at_ K Hc H F → RsAll K Hc H O Fs → RsAll K Hc H (r :: O) (F :: Fs)
theorem RsAll.mono {K : Fg} {Hc Hc' H H' : Hp} (e : Same Hc Hc') : ∀ {O : List Rsc} {Fs : List (List Addr)}, (∀ a ∈ Fs.flatten, H' a = H a) → RsAll K Hc H O Fs → RsAll K Hc' H' O Fs
  | _, _, _, .nil => .nil
  | _, _, k, .cons h t => .cons (Rsc.mono _ e (fun a ha => k a (by simp [ha])) h) (RsAll.mono e (fun a ha => k a (by simp only [List.flatten_cons, List.mem_append]; exact .inr ha)) t)
theorem RsAll.there {K : Fg} {Hc H : Hp} : ∀ {O : List Rsc} {Fs : List (List Addr)}, RsAll K Hc H O Fs → ∀ a ∈ Fs.flatten, H a ≠ none
  | _, _, .nil, a, ha => by simp at ha
  | _, _, .cons h t, a, ha => by
    rcases List.mem_append.mp (by simpa only [List.flatten_cons] using ha) with q | q
    · exact Rsc.there _ h a q
    · exact RsAll.there t a q
theorem RsAll.app {K : Fg} {Hc H : Hp} : ∀ {O O2 : List Rsc} {Fs Gs : List (List Addr)}, RsAll K Hc H O Fs → RsAll K Hc H O2 Gs → RsAll K Hc H (O ++ O2) (Fs ++ Gs)
  | _, _, _, _, .nil, s => s
  | _, _, _, _, .cons h t, s => .cons h (RsAll.app t s)
theorem RsAll.split {K : Fg} {Hc H : Hp} : ∀ {O O2 : List Rsc} {Fs : List (List Addr)}, RsAll K Hc H (O ++ O2) Fs → ∃ Gs Ks, Fs = Gs ++ Ks ∧ RsAll K Hc H O Gs ∧ RsAll K Hc H O2 Ks
  | [], _, Fs, h => ⟨[], Fs, rfl, .nil, h⟩
  | r :: O, O2, _, h => by
    cases h with
    | cons h1 h2 =>
      obtain ⟨Gs, Ks, e, q1, q2⟩ := RsAll.split h2
      exact ⟨_ :: Gs, Ks, by rw [e]; rfl, .cons h1 q1, q2⟩
/-- where a run stands: Hc the closed part, O what is open -/
structure Ok (c : Cn) (Hc H : Hp) (O : List Rsc) : Prop where
  same : ∀ a o, a ∉ c.M → c.H0 a = some o → H a = some o
  sub : Same Hc H
  ext : Same c.C0 Hc
  new : ∀ a o, Hc a = some o → c.C0 a = none → c.H0 a = none
  old : ∀ a, c.H0 a ≠ none → H a ≠ none
  opn : ∃ Fs, RsAll c.K Hc H O Fs ∧ Fs.flatten.Nodup ∧ ∀ a ∈ Fs.flatten, Hc a = none ∧ (a ∈ c.M ∨ c.H0 a = none)
theorem Ok.nil {c : Cn} {Hc H : Hp} {O : List Rsc} (k : Ok c Hc H O) : Ok c Hc H [] := ⟨k.same, k.sub, k.ext, k.new, k.old, [], .nil, by simp, by simp⟩
/-- a new closed object -/
theorem Ok.laid {c : Cn} {Hc H : Hp} {O : List Rsc} (k : Ok c Hc H O) {p : Addr} {o : HO} (hp : H p = Option.none) : Ok c (upd Hc p o) (upd H p o) O := by
  have hc : Hc p = Option.none := k.sub.free hp
  obtain ⟨Fs, h1, h2, h3⟩ := k.opn
  have np : ∀ a ∈ Fs.flatten, a ≠ p := fun a ha z => h1.there a ha (by rw [z]; exact hp)
  refine ⟨fun a u hm e => ?_, fun a u e => ?_, fun a u e => ?_, fun a u e n => ?_, fun a ha => ?_, Fs, h1.mono (fun a u e => ?_) fun a ha => upd_ne (np a ha), h2, fun a ha => ⟨by rw [upd_ne (np a ha)]; exact (h3 a ha).1, (h3 a ha).2⟩⟩
  · have q := k.same a u hm e
    rw [upd_ne (ne_of_none q hp)]; exact q
  · by_cases z : a = p
    · rw [z, upd_same] at e ⊢; exact e
    · rw [upd_ne z] at e ⊢; exact k.sub a u e
  · have q := k.ext a u e
    rw [upd_ne (ne_of_none q hc)]; exact q
  · by_cases z : a = p
    · rw [z]
      exact Classical.byContradiction fun q => k.old p q hp
    · rw [upd_ne z] at e
      exact k.new a u e n
  · by_cases z : a = p
    · rw [z, upd_same]; simp
    · rw [upd_ne z]; exact k.old a ha
  · rw [upd_ne (ne_of_none e hc)]; exact e
/-- the slots tell data -/
def EnvR (K : Fg) (Hc : Hp) (σ : L2.St) (E : List (Option D)) : Prop := σ.length = E.length ∧ ∀ (i : Nat) (d : D), E[i]? = some (some d) → ∃ v, σ[i]? = some (some v) ∧ Rp K Hc v d
theorem EnvR.mono {K : Fg} {H H' : Hp} {σ : L2.St} {E : List (Option D)} (e : Same H H') (h : EnvR K H σ E) : EnvR K H' σ E :=
  ⟨h.1, fun i d q => let ⟨v, a, b⟩ := h.2 i d q; ⟨v, a, b.mono e⟩⟩
theorem EnvR.set {K : Fg} {H : Hp} {σ : L2.St} {E : List (Option D)} {i : Nat} {v : V} {d : D} (h : EnvR K H σ E) (r : Rp K H v d) : EnvR K H (σ.set i (some v)) (E.set i (some d)) := by
  refine ⟨by rw [List.length_set, List.length_set]; exact h.1, fun j e q => ?_⟩
  by_cases hj : j = i
  · subst hj
    have hl : j < E.length := by
      have := (List.getElem?_eq_some_iff.mp q).1
      simpa using this
    rw [List.getElem?_set_self hl] at q
    have q' : d = e := by simpa using q
    subst q'
    exact ⟨v, List.getElem?_set_self (by rw [h.1]; exact hl), r⟩
  · rw [List.getElem?_set_ne (Ne.symm hj)] at q
    obtain ⟨w, a, b⟩ := h.2 j e q
    exact ⟨w, by rw [List.getElem?_set_ne (Ne.symm hj)]; exact a, b⟩
/-- less is known -/
def EnvLe (E E' : List (Option D)) : Prop := E.length = E'.length ∧ ∀ (i : Nat) (d : D), E'[i]? = some (some d) → E[i]? = some (some d)
theorem EnvR.le {K : Fg} {H : Hp} {σ : L2.St} {E E' : List (Option D)} (h : EnvR K H σ E) (l : EnvLe E E') : EnvR K H σ E' := ⟨h.1.trans l.1, fun i d q => h.2 i d (l.2 i d q)⟩
theorem le_refl (E : List (Option D)) : EnvLe E E := ⟨rfl, fun _ _ q => q⟩
theorem le_nil : EnvLe [] [] := le_refl _
theorem le_some {E E' : List (Option D)} {d : D} (h : EnvLe E E') : EnvLe (some d :: E) (some d :: E') := ⟨by simp [h.1], fun i e q => by
  cases i with
  | zero => exact q
  | succ i => exact h.2 i e q⟩
theorem le_none {E E' : List (Option D)} {d : Option D} (h : EnvLe E E') : EnvLe (d :: E) (none :: E') := ⟨by simp [h.1], fun i e q => by
  cases i with
  | zero => simp at q
  | succ i => exact h.2 i e q⟩
/-- what is to be shown from all states of such a kind -/
def Sy (c : Cn) (E : List (Option D)) (O : List Rsc) (P : L2.St → Hp → Prop) : Prop := ∀ (σ : L2.St) (H Hc : Hp), Ok c Hc H O → EnvR c.K Hc σ E → P σ H
/-- an expression tells d (closed), nothing open is changed -/
def Ev (c : Cn) (te : TE) (E : List (Option D)) (O : List Rsc) (d : D) : Prop := ∀ (σ : L2.St) (H Hc : Hp), Ok c Hc H O → EnvR c.K Hc σ E → ∀ Q : VK,
  (∀ v H' Hc', Ok c Hc' H' O → Same Hc Hc' → Same H H' → Rp c.K Hc' v d → Q v H') → te σ H Q
/-- .. by the whole heap, open objects too -/
def EvH (c : Cn) (te : TE) (E : List (Option D)) (O : List Rsc) (d : D) : Prop := ∀ (σ : L2.St) (H Hc : Hp), Ok c Hc H O → EnvR c.K Hc σ E → ∀ Q : VK,
  (∀ v H' Hc', Ok c Hc' H' O → Same Hc Hc' → Same H H' → Rp c.K H' v d → Q v H') → te σ H Q
/-- a new list, open -/
def EvF (c : Cn) (te : TE) (E : List (Option D)) (O : List Rsc) (ds : List D) : Prop := ∀ (σ : L2.St) (H Hc : Hp), Ok c Hc H O → EnvR c.K Hc σ E → ∀ Q : VK,
  (∀ p H' Hc', Ok c Hc' H' (O ++ [rLst p ds]) → Same Hc Hc' → Same H H' → Q (.ref p) H') → te σ H Q
def EvT (c : Cn) (tt : TT) (E : List (Option D)) (O : List Rsc) (b : Bool) : Prop := ∀ (σ : L2.St) (H Hc : Hp), Ok c Hc H O → EnvR c.K Hc σ E → ∀ Q : Bool → Hp → Prop,
  (∀ H' Hc', Ok c Hc' H' O → Same Hc Hc' → Same H H' → Q b H') → tt σ H Q
def EvA (c : Cn) (ta : TA) (E : List (Option D)) (O : List Rsc) (ds : List D) : Prop := ∀ (σ : L2.St) (H Hc : Hp), Ok c Hc H O → EnvR c.K Hc σ E → ∀ Q : List V → Hp → Prop,
  (∀ vs H' Hc', Ok c Hc' H' O → Same Hc Hc' → Same H H' → RpAll c.K Hc' vs ds → Q vs H') → ta σ H Q
def EvAH (c : Cn) (ta : TA) (E : List (Option D)) (O : List Rsc) (ds : List D) : Prop := ∀ (σ : L2.St) (H Hc : Hp), Ok c Hc H O → EnvR c.K Hc σ E → ∀ Q : List V → Hp → Prop,
  (∀ vs H' Hc', Ok c Hc' H' O → Same Hc Hc' → Same H H' → RpAll c.K H' vs ds → Q vs H') → ta σ H Q
section
variable {c : Cn} {E E' : List (Option D)} {O O' : List Rsc} {te ta tb : TE} {d d1 d2 : D} {P P' : L2.St → Hp → Prop}
theorem Ev.h (h : Ev c te E O d) : EvH c te E O d := fun σ H Hc k r Q q => h σ H Hc k r Q fun v H' Hc' k' s s2 rv => q v H' Hc' k' s s2 (rv.mono k'.sub)
theorem EvA.h {ta : TA} {ds : List D} (h : EvA c ta E O ds) : EvAH c ta E O ds := fun σ H Hc k r Q q => h σ H Hc k r Q fun v H' Hc' k' s s2 rv => q v H' Hc' k' s s2 (rv.mono k'.sub)
theorem sy_le (l : EnvLe E E') (h : Sy c E' O P) : Sy c E O P := fun σ H Hc k r => h σ H Hc k (r.le l)
theorem sy_imp (h : Sy c E O P) (i : ∀ σ H, P σ H → P' σ H) : Sy c E O P' := fun σ H Hc k r => i σ H (h σ H Hc k r)
/-! ### expressions -/
theorem ev_var {i : Nat} (h : E[i]? = some (some d)) : Ev c (tVar i) E O d := fun σ H Hc k r Q q => by
  obtain ⟨v, h1, h2⟩ := r.2 i d h
  exact ⟨v, h1, q v H Hc k (Same.refl _) (Same.refl _) h2⟩
/-- an open list, read -/
theorem eh_open {i j : Nat} {p : Addr} {ds : List D} (h : E[i]? = some (some (.raw (.ref p)))) (ho : O[j]? = some (rLst p ds)) : EvH c (tVar i) E O (.lst ds) := fun σ H Hc k r Q q => by
  obtain ⟨v, h1, h2⟩ := r.2 i _ h
  cases h2
  refine ⟨_, h1, q _ H Hc k (Same.refl _) (Same.refl _) ?_⟩
  obtain ⟨Fs, a1, a2, a3⟩ := k.opn
  have go : ∀ (O : List Rsc) (Fs : List (List Addr)) (j : Nat), RsAll c.K Hc H O Fs → O[j]? = some (rLst p ds) → ∃ F, (rLst p ds).at_ c.K Hc H F := fun O => by
    induction O with
    | nil => intro Fs j _ e; simp at e
    | cons r O ih =>
      intro Fs j a e
      cases a with
      | cons b1 b2 =>
        cases j with
        | zero =>
          have e' : r = rLst p ds := by simpa using e
          subst e'
          exact ⟨_, b1⟩
        | succ j => exact ih _ j b2 (by simpa using e)
  obtain ⟨F, f, vs, e1, e2⟩ := go O Fs j a1 ho
  exact .lst e1 (e2.mono k.sub)
theorem ev_int {i : Int} : Ev c (tC (.int i)) E O (.int i) := fun σ H Hc k r Q q => q _ H Hc k (Same.refl _) (Same.refl _) (.int i)
theorem ev_bl {b : Bool} : Ev c (tC (.bl b)) E O (.bl b) := fun σ H Hc k r Q q => q _ H Hc k (Same.refl _) (Same.refl _) (.bl b)
theorem ev_non : Ev c (tC .non) E O .non := fun σ H Hc k r Q q => q _ H Hc k (Same.refl _) (Same.refl _) .non
theorem ev_raw {v : V} : Ev c (tC v) E O (.raw v) := fun σ H Hc k r Q q => q _ H Hc k (Same.refl _) (Same.refl _) (.raw v)
theorem ev_str {x : Str} {l : List Nat} (h : x.cps.toList = l) : Ev c (tC (.str x)) E O (.str l) := fun σ H Hc k r Q q => by
  have e : x = S l := by rw [← h, S_tl]
  subst e
  exact q _ H Hc k (Same.refl _) (Same.refl _) (.str l)
theorem ev_is (h : Ev c te E O d1) (e : d1 = d2) : Ev c te E O d2 := e ▸ h
theorem eh_is (h : EvH c te E O d1) (e : d1 = d2) : EvH c te E O d2 := e ▸ h
theorem et_is {t : TT} {b b' : Bool} (h : EvT c t E O b) (e : b = b') : EvT c t E O b' := e ▸ h
/-- an operation on values that tell d1, d2: its answer tells d, nothing else changes -/
def OpD (K : Fg) (r : R2) (d1 d2 d : D) : Prop := ∀ (x y : V) (H : Hp) (Q : VK), Rp K H x d1 → Rp K H y d2 → (∀ v, (∀ Hc, Rp K Hc v d) → Q v H) → r x y H Q
theorem ev_op {r : R2} (ha : EvH c ta E O d1) (hb : EvH c tb E O d2) (hr : OpD c.K r d1 d2 d) : Ev c (tOp r ta tb) E O d := fun σ H Hc k rr Q q =>
  ha σ H Hc k rr _ fun x H1 Hc1 k1 s1 t1 r1 => hb σ H1 Hc1 k1 (rr.mono s1) _ fun y H2 Hc2 k2 s2 t2 r2 =>
    hr x y H2 Q (r1.mono t2) r2 fun v rv => q v H2 Hc2 k2 (s1.trans s2) (t1.trans t2) (rv Hc2)
/-- .. its answer is a part of the first -/
def OpC (K : Fg) (r : R2) (d1 d2 d : D) : Prop := ∀ (x y : V) (Hc H : Hp) (Q : VK), Same Hc H → Rp K Hc x d1 → Rp K H y d2 → (∀ v, Rp K Hc v d → Q v H) → r x y H Q
theorem ev_opC {r : R2} (ha : Ev c ta E O d1) (hb : EvH c tb E O d2) (hr : OpC c.K r d1 d2 d) : Ev c (tOp r ta tb) E O d := fun σ H Hc k rr Q q =>
  ha σ H Hc k rr _ fun x H1 Hc1 k1 s1 t1 r1 => hb σ H1 Hc1 k1 (rr.mono s1) _ fun y H2 Hc2 k2 s2 t2 r2 =>
    hr x y Hc2 H2 Q k2.sub (r1.mono s2) r2 fun v rv => q v H2 Hc2 k2 (s1.trans s2) (t1.trans t2) rv
theorem et_test {b : Bool} (h : Ev c te E O (.bl b)) : EvT c (tTest te) E O b := fun σ H Hc k r Q q => h σ H Hc k r _ fun v H1 Hc1 k1 s1 t1 r1 => by
  cases r1
  exact ⟨b, rfl, q H1 Hc1 k1 s1 t1⟩
theorem et_B {b : Bool} (h : Ev c te E O (.bl b)) : EvT c (tB te) E O b := fun σ H Hc k r Q q => h σ H Hc k r _ fun v H1 Hc1 k1 s1 t1 r1 => by
  cases r1
  exact ⟨b, rfl, q H1 Hc1 k1 s1 t1⟩
theorem et_not {t : TT} {b : Bool} (h : EvT c t E O b) : EvT c (tNot t) E O (!b) := fun σ H Hc k r Q q => h σ H Hc k r _ fun H1 Hc1 k1 s1 t1 => q H1 Hc1 k1 s1 t1
theorem et_and {t u : TT} {a b : Bool} (h1 : EvT c t E O a) (h2 : a = true → EvT c u E O b) : EvT c (tAnd t u) E O (a && b) := fun σ H Hc k r Q q => h1 σ H Hc k r _ fun H1 Hc1 k1 s1 t1 => by
  cases a with
  | true =>
    rw [if_pos rfl]
    exact h2 rfl σ H1 Hc1 k1 (r.mono s1) Q fun H2 Hc2 k2 s2 t2 => q H2 Hc2 k2 (s1.trans s2) (t1.trans t2)
  | false =>
    rw [if_neg Bool.false_ne_true]
    exact q H1 Hc1 k1 s1 t1
theorem et_or {t u : TT} {a b : Bool} (h1 : EvT c t E O a) (h2 : a = false → EvT c u E O b) : EvT c (tOr t u) E O (a || b) := fun σ H Hc k r Q q => h1 σ H Hc k r _ fun H1 Hc1 k1 s1 t1 => by
  cases a with
  | true =>
    rw [if_pos rfl]
    exact q H1 Hc1 k1 s1 t1
  | false =>
    rw [if_neg Bool.false_ne_true]
    exact h2 rfl σ H1 Hc1 k1 (r.mono s1) Q fun H2 Hc2 k2 s2 t2 => q H2 Hc2 k2 (s1.trans s2) (t1.trans t2)
theorem ev_and {a b : Bool} (h1 : Ev c ta E O (.bl a)) (h2 : a = true → Ev c tb E O (.bl b)) : Ev c (tAndV ta tb) E O (.bl (a && b)) := fun σ H Hc k r Q q => h1 σ H Hc k r _ fun v H1 Hc1 k1 s1 t1 r1 => by
  cases r1
  refine ⟨a, rfl, ?_⟩
  cases a with
  | true =>
    rw [if_pos rfl]
    exact h2 rfl σ H1 Hc1 k1 (r.mono s1) Q fun v H2 Hc2 k2 s2 t2 r2 => q v H2 Hc2 k2 (s1.trans s2) (t1.trans t2) r2
  | false =>
    rw [if_neg Bool.false_ne_true]
    exact q _ H1 Hc1 k1 s1 t1 (.bl false)
theorem ev_or {a b : Bool} (h1 : Ev c ta E O (.bl a)) (h2 : a = false → Ev c tb E O (.bl b)) : Ev c (tOrV ta tb) E O (.bl (a || b)) := fun σ H Hc k r Q q => h1 σ H Hc k r _ fun v H1 Hc1 k1 s1 t1 r1 => by
  cases r1
  refine ⟨a, rfl, ?_⟩
  cases a with
  | true =>
    rw [if_pos rfl]
    exact q _ H1 Hc1 k1 s1 t1 (.bl true)
  | false =>
    rw [if_neg Bool.false_ne_true]
    exact h2 rfl σ H1 Hc1 k1 (r.mono s1) Q fun v H2 Hc2 k2 s2 t2 r2 => q v H2 Hc2 k2 (s1.trans s2) (t1.trans t2) r2
theorem ev_not {a : Bool} (h1 : Ev c ta E O (.bl a)) : Ev c (tNotV ta) E O (.bl (!a)) := fun σ H Hc k r Q q => h1 σ H Hc k r _ fun v H1 Hc1 k1 s1 t1 r1 => by
  cases r1
  exact ⟨a, rfl, q _ H1 Hc1 k1 s1 t1 (.bl _)⟩
theorem ev_if {t : TT} {b : Bool} (h : EvT c t E O b) (h1 : b = true → Ev c ta E O d) (h2 : b = false → Ev c tb E O d) : Ev c (tIf t ta tb) E O d := fun σ H Hc k r Q q => h σ H Hc k r _ fun H1 Hc1 k1 s1 t1 => by
  cases b with
  | true =>
    rw [if_pos rfl]
    exact h1 rfl σ H1 Hc1 k1 (r.mono s1) Q fun v H2 Hc2 k2 s2 t2 r2 => q v H2 Hc2 k2 (s1.trans s2) (t1.trans t2) r2
  | false =>
    rw [if_neg Bool.false_ne_true]
    exact h2 rfl σ H1 Hc1 k1 (r.mono s1) Q fun v H2 Hc2 k2 s2 t2 r2 => q v H2 Hc2 k2 (s1.trans s2) (t1.trans t2) r2
theorem ea_nil : EvA c tNil E O [] := fun σ H Hc k r Q q => q [] H Hc k (Same.refl _) (Same.refl _) .nil
theorem ea_cons {tr : TA} {ds : List D} (h : Ev c te E O d) (hr : EvA c tr E O ds) : EvA c (tCons te tr) E O (d :: ds) := fun σ H Hc k r Q q =>
  h σ H Hc k r _ fun v H1 Hc1 k1 s1 t1 r1 => hr σ H1 Hc1 k1 (r.mono s1) _ fun vs H2 Hc2 k2 s2 t2 r2 => q _ H2 Hc2 k2 (s1.trans s2) (t1.trans t2) (.cons (r1.mono s2) r2)
theorem eah_nil : EvAH c tNil E O [] := fun σ H Hc k r Q q => q [] H Hc k (Same.refl _) (Same.refl _) .nil
theorem eah_cons {tr : TA} {ds : List D} (h : EvH c te E O d) (hr : EvAH c tr E O ds) : EvAH c (tCons te tr) E O (d :: ds) := fun σ H Hc k r Q q =>
  h σ H Hc k r _ fun v H1 Hc1 k1 s1 t1 r1 => hr σ H1 Hc1 k1 (r.mono s1) _ fun vs H2 Hc2 k2 s2 t2 r2 => q _ H2 Hc2 k2 (s1.trans s2) (t1.trans t2) (.cons (r1.mono t2) r2)
theorem ev_tup {ta : TA} {ds : List D} (h : EvA c ta E O ds) (hl : ds.length ≤ sizeLine) : Ev c (tTup ta) E O (.tup ds) := fun σ H Hc k r Q q => h σ H Hc k r _ fun vs H1 Hc1 k1 s1 t1 r1 => by
  refine ⟨by rw [r1.length]; exact hl, fun p hp => ?_⟩
  have hc := k1.sub.free hp
  have n1 : Same Hc1 (upd Hc1 p (.tup vs)) := fun a u e => by rw [upd_ne (ne_of_none e hc)]; exact e
  have n2 : Same H1 (upd H1 p (.tup vs)) := fun a u e => by rw [upd_ne (ne_of_none e hp)]; exact e
  exact q _ _ _ (k1.laid hp) (s1.trans n1) (t1.trans n2) (.tup (SqT.of upd_same) (r1.mono n1))
/-- a new open object beside the others -/
theorem Ok.open {Hc H : Hp} (k : Ok c Hc H O) {p : Addr} {vs : List V} {ds : List D} (hp : H p = none) (r : RpAll c.K Hc vs ds) : Ok c Hc (upd H p (.lst vs)) (O ++ [rLst p ds]) := by
  obtain ⟨Fs, h1, h2, h3⟩ := k.opn
  have hc := k.sub.free hp
  have np : ∀ a ∈ Fs.flatten, a ≠ p := fun a ha z => h1.there a ha (by rw [z]; exact hp)
  have up : ∀ {G : Hp}, Same G H → Same G (upd H p (.lst vs)) := fun e a u q => by rw [upd_ne (ne_of_none (e a u q) hp)]; exact e a u q
  refine ⟨fun a u hm e => ?_, up k.sub, k.ext, k.new, fun a ha => ?_, Fs ++ [[p]], (h1.mono (Same.refl _) fun a ha => upd_ne (np a ha)).app (.cons ⟨rfl, vs, upd_same, r⟩ .nil), ?_, fun a ha => ?_⟩
  · rw [upd_ne (ne_of_none (k.same a u hm e) hp)]; exact k.same a u hm e
  · by_cases z : a = p
    · rw [z, upd_same]; simp
    · rw [upd_ne z]; exact k.old a ha
  · rw [List.flatten_append]
    show (Fs.flatten ++ [p]).Nodup
    rw [List.nodup_append]
    exact ⟨h2, by simp, fun a ha b hb => by
      have e : b = p := by simpa using hb
      rw [e]; exact np a ha⟩
  · rw [List.flatten_append] at ha
    rcases List.mem_append.mp ha with q | q
    · exact h3 a q
    · have e : a = p := by simpa using q
      rw [e]
      exact ⟨hc, .inr (Classical.byContradiction fun z => k.old p z hp)⟩
theorem ef_lst {ta : TA} {ds : List D} (h : EvA c ta E O ds) (hl : ds.length ≤ sizeLine) : EvF c (tLst ta) E O ds := fun σ H Hc k r Q q => h σ H Hc k r _ fun vs H1 Hc1 k1 s1 t1 r1 => by
  refine ⟨by rw [r1.length]; exact hl, fun p hp => ?_⟩
  have n2 : Same H1 (upd H1 p (.lst vs)) := fun a u e => by rw [upd_ne (ne_of_none e hp)]; exact e
  exact q p _ _ (k1.open hp r1) s1 (t1.trans n2)
/-- the last open one is closed -/
theorem Ok.close {Hc H : Hp} {p : Addr} {ds : List D} (k : Ok c Hc H (O ++ [rLst p ds])) (hm : p ∉ c.M := by simp) : ∃ vs, H p = some (.lst vs) ∧ RpAll c.K Hc vs ds ∧ Hc p = none ∧ Ok c (upd Hc p (.lst vs)) H O := by
  obtain ⟨Fs, h1, h2, h3⟩ := k.opn
  obtain ⟨Gs, Ks, e, a1, a2⟩ := h1.split
  subst e
  cases a2 with
  | cons b1 b2 =>
    cases b2
    obtain ⟨f, vs, hv, rv⟩ := b1
    subst f
    have hp := h3 p (by simp)
    rw [List.flatten_append] at h2
    have hd : ∀ a ∈ Gs.flatten, a ≠ p := fun a ha z => (List.nodup_append.mp h2).2.2 a ha p (by simp) z
    have n1 : Same Hc (upd Hc p (.lst vs)) := fun a u e => by rw [upd_ne (ne_of_none e hp.1)]; exact e
    refine ⟨vs, hv, rv, hp.1, k.same, fun a u e => ?_, k.ext.trans n1, fun a u e n => ?_, k.old, Gs, a1.mono n1 fun _ _ => rfl, (List.nodup_append.mp h2).1, fun a ha => ?_⟩
    · by_cases z : a = p
      · rw [z, upd_same] at e; rw [z, hv]; exact e
      · rw [upd_ne z] at e; exact k.sub a u e
    · by_cases z : a = p
      · rw [z]
        exact hp.2.resolve_left hm
      · rw [upd_ne z] at e; exact k.new a u e n
    · rw [upd_ne (hd a ha)]
      exact h3 a (by rw [List.flatten_append]; exact List.mem_append_left _ ha)
end
section
variable {c : Cn} {E E' : List (Option D)} {O O' : List Rsc} {te ta tb : TE} {d d1 d2 : D} {P P' : L2.St → Hp → Prop} {dn : Ends} {ts tu tz : TS}
/-- a new list that is closed at once -/
theorem ev_ofF {ds : List D} (h : EvF c te E O ds) (hM : c.M = []) : Ev c te E O (.lst ds) := fun σ H Hc k r Q q => h σ H Hc k r _ fun p H1 Hc1 k1 s1 t1 => by
  obtain ⟨vs, hv, rv, hn, k2⟩ := k1.close (by rw [hM]; simp)
  have n1 : Same Hc1 (upd Hc1 p (.lst vs)) := fun a u e => by rw [upd_ne (ne_of_none e hn)]; exact e
  exact q _ _ _ k2 (s1.trans n1) t1 (.lst upd_same (rv.mono n1))
/-! ### statements, each with what stands behind it -/
theorem q_asg {i : Nat} (h : Ev c te E O d) (k : Sy c (E.set i (some d)) O (tz dn)) : Sy c E O (tSeq (tAsg te (gName i)) tz dn) := fun σ H Hc k0 r =>
  h σ H Hc k0 r _ fun v H1 Hc1 k1 s1 t1 r1 => k _ H1 Hc1 k1 ((r.mono s1).set r1)
theorem q_asgF {i : Nat} {ds : List D} (h : EvF c te E O ds) (k : ∀ p, Sy c (E.set i (some (.raw (.ref p)))) (O ++ [rLst p ds]) (tz dn)) : Sy c E O (tSeq (tAsg te (gName i)) tz dn) := fun σ H Hc k0 r =>
  h σ H Hc k0 r _ fun p H1 Hc1 k1 s1 t1 => k p _ H1 Hc1 k1 ((r.mono s1).set (.raw _))
theorem q_drop (h : Ev c te E O d) (k : Sy c E O (tz dn)) : Sy c E O (tSeq (tDrop te) tz dn) := fun σ H Hc k0 r =>
  h σ H Hc k0 r _ fun v H1 Hc1 k1 s1 t1 r1 => k _ H1 Hc1 k1 (r.mono s1)
theorem q_if {t : TT} {b : Bool} (h : EvT c t E O b) (h1 : b = true → Sy c E O (ts { dn with nx := tz dn })) (h2 : b = false → Sy c E O (tu { dn with nx := tz dn })) : Sy c E O (tSeq (tIfS t ts tu) tz dn) := fun σ H Hc k0 r =>
  h σ H Hc k0 r _ fun H1 Hc1 k1 s1 t1 => by
    cases b with
    | true =>
      rw [if_pos rfl]
      exact h1 rfl σ H1 Hc1 k1 (r.mono s1)
    | false =>
      rw [if_neg Bool.false_ne_true]
      exact h2 rfl σ H1 Hc1 k1 (r.mono s1)
theorem q_next (k : Sy c E O dn.nx) : Sy c E O (tNext dn) := k
theorem q_brk (k : Sy c E O dn.bk) : Sy c E O (tSeq tBreak tz dn) := k
theorem q_cont (k : Sy c E O dn.ct) : Sy c E O (tSeq tCont tz dn) := k
theorem q_pass (k : Sy c E O (tz dn)) : Sy c E O (tSeq tNext tz dn) := k
/-- a word between -/
theorem q_ofcut {s1 : TS} (h : Sy c E O (tSeq s1 tz dn)) : Sy c E O (Evl.tCut s1 tz dn) := fun σ H Hc k0 r => ⟨tz dn, h σ H Hc k0 r, fun _ _ q => q⟩
theorem q_cut {s1 : TS} (Mid : L2.St → Hp → Prop) (h : Sy c E O (s1 { dn with nx := Mid })) (k : ∀ σ H, Mid σ H → tz dn σ H) : Sy c E O (Evl.tCut s1 tz dn) := fun σ H Hc k0 r => ⟨Mid, h σ H Hc k0 r, k⟩
/-- what is wanted of a value that is given back: it tells d -/
def RtD (c : Cn) (Q : VK) (d : D) : Prop := ∀ v H Hc, Ok c Hc H [] → Rp c.K Hc v d → Q v H
/-- .. a new list -/
def RtF (c : Cn) (Q : VK) (ds : List D) : Prop := ∀ p vs H Hc, Ok c Hc H [] → H p = some (.lst vs) → RpAll c.K Hc vs ds → Hc p = none → c.H0 p = none → Q (.ref p) H
theorem q_ret (h : Ev c te E O d) (q : RtD c dn.rt d) : Sy c E O (tSeq (tRet te) tz dn) := fun σ H Hc k0 r =>
  h σ H Hc k0 r _ fun v H1 Hc1 k1 s1 t1 r1 => q v H1 Hc1 k1.nil r1
/-- one of the open ones: its own place, apart from the others -/
theorem Ok.pick {Hc H : Hp} (k : Ok c Hc H O) {j : Nat} {p : Addr} {ds : List D} (hj : O[j]? = some (rLst p ds)) :
    ∃ vs, H p = some (.lst vs) ∧ RpAll c.K Hc vs ds ∧ Hc p = none ∧ (p ∈ c.M ∨ c.H0 p = none) ∧
      (∀ ws es, RpAll c.K Hc ws es → Ok c Hc (upd H p (.lst ws)) (O.set j (rLst p es))) ∧ (p ∉ c.M → Ok c (upd Hc p (.lst vs)) H (O.eraseIdx j)) := by
  obtain ⟨Fs, h1, h2, h3⟩ := k.opn
  have go : ∀ (O : List Rsc) (Fs : List (List Addr)) (j : Nat), RsAll c.K Hc H O Fs → Fs.flatten.Nodup → O[j]? = some (rLst p ds) → p ∈ Fs.flatten ∧ ∃ vs, H p = some (.lst vs) ∧ RpAll c.K Hc vs ds ∧
      (∀ ws es, RpAll c.K Hc ws es → RsAll c.K Hc (upd H p (.lst ws)) (O.set j (rLst p es)) Fs) ∧ ∃ Gs, RsAll c.K Hc H (O.eraseIdx j) Gs ∧ Gs.flatten.Nodup ∧ ∀ a ∈ Gs.flatten, a ∈ Fs.flatten ∧ a ≠ p := fun O => by
    induction O with
    | nil => intro Fs j _ _ e; simp at e
    | cons r O ih =>
      intro Fs j a nd e
      cases a with
      | @cons _ F _ Fs' b1 b2 =>
        have nd' := nd
        rw [List.flatten_cons, List.nodup_append] at nd'
        obtain ⟨n1, n2, n3⟩ := nd'
        cases j with
        | zero =>
          have e' : r = rLst p ds := by simpa using e
          subst e'
          obtain ⟨f, vs, hv, rv⟩ := b1
          subst f
          have hd : ∀ a ∈ Fs'.flatten, a ≠ p := fun a ha z => n3 p (by simp) a ha z.symm
          refine ⟨by simp, vs, hv, rv, fun ws es q => .cons ⟨rfl, ws, upd_same, q⟩ (b2.mono (Same.refl _) fun a ha => upd_ne (hd a ha)), Fs', b2, n2, fun a ha => ⟨by rw [List.flatten_cons]; exact List.mem_append_right _ ha, hd a ha⟩⟩
        | succ j =>
          obtain ⟨m, vs, hv, rv, g1, Gs, g2, g3, g4⟩ := ih Fs' j b2 n2 (by simpa using e)
          have hd : ∀ a ∈ F, a ≠ p := fun a ha z => n3 a ha p m z
          refine ⟨by rw [List.flatten_cons]; exact List.mem_append_right _ m, vs, hv, rv, fun ws es q => .cons (Rsc.mono _ (Same.refl _) (fun a ha => upd_ne (hd a ha)) b1) (g1 ws es q), F :: Gs, .cons b1 g2, ?_, fun a ha => ?_⟩
          · rw [List.flatten_cons, List.nodup_append]
            exact ⟨n1, g3, fun a ha b hb => n3 a ha b (g4 b hb).1⟩
          · rw [List.flatten_cons] at ha ⊢
            rcases List.mem_append.mp ha with q | q
            · exact ⟨List.mem_append_left _ q, hd a q⟩
            · exact ⟨List.mem_append_right _ (g4 a q).1, (g4 a q).2⟩
  obtain ⟨m, vs, hv, rv, g1, Gs, g2, g3, g4⟩ := go O Fs j h1 h2 hj
  have hp := h3 p m
  refine ⟨vs, hv, rv, hp.1, hp.2, fun ws es q => ⟨fun a u hm e => ?_, fun a u e => ?_, k.ext, k.new, fun a ha => ?_, Fs, g1 ws es q, h2, h3⟩, fun hm => ?_⟩
  · by_cases z : a = p
    · subst z
      rcases hp.2 with q | q
      · exact absurd q hm
      · rw [e] at q; cases q
    · rw [upd_ne z]; exact k.same a u hm e
  · by_cases z : a = p
    · subst z; rw [hp.1] at e; cases e
    · rw [upd_ne z]; exact k.sub a u e
  · by_cases z : a = p
    · rw [z, upd_same]; simp
    · rw [upd_ne z]; exact k.old a ha
  · have n1 : Same Hc (upd Hc p (.lst vs)) := fun a u e => by rw [upd_ne (ne_of_none e hp.1)]; exact e
    refine ⟨k.same, fun a u e => ?_, k.ext.trans n1, fun a u e n => ?_, k.old, Gs, g2.mono n1 fun _ _ => rfl, g3, fun a ha => ?_⟩
    · by_cases z : a = p
      · rw [z, upd_same] at e; rw [z, hv]; exact e
      · rw [upd_ne z] at e; exact k.sub a u e
    · by_cases z : a = p
      · rw [z]; exact hp.2.resolve_left hm
      · rw [upd_ne z] at e; exact k.new a u e n
    · rw [upd_ne (g4 a ha).2]
      exact h3 a (g4 a ha).1
/-- what is behind in the list of open ones may be forgotten -/
theorem Ok.pre {Hc H : Hp} {X : List Rsc} (k : Ok c Hc H (O ++ X)) : Ok c Hc H O := by
  obtain ⟨Fs, h1, h2, h3⟩ := k.opn
  obtain ⟨Gs, Ks, e, a1, a2⟩ := h1.split
  subst e
  rw [List.flatten_append] at h2 h3
  exact ⟨k.same, k.sub, k.ext, k.new, k.old, Gs, a1, (List.nodup_append.mp h2).1, fun a ha => h3 a (List.mem_append_left _ ha)⟩
/-- a fact about a value, kept beside -/
def rGh (v : V) (d : D) : Rsc where
  at_ := fun K Hc _ F => F = [] ∧ Rp K Hc v d
  mono := fun e _ ⟨f, r⟩ => ⟨f, r.mono e⟩
  there := fun ⟨f, _⟩ a ha => by rw [f] at ha; simp at ha
theorem Ok.ghost {Hc H : Hp} (k : Ok c Hc H O) {v : V} {d : D} (r : Rp c.K Hc v d) : Ok c Hc H (O ++ [rGh v d]) := by
  obtain ⟨Fs, h1, h2, h3⟩ := k.opn
  exact ⟨k.same, k.sub, k.ext, k.new, k.old, Fs ++ [[]], h1.app (.cons ⟨rfl, r⟩ .nil), by simpa using h2, fun a ha => h3 a (by simpa using ha)⟩
theorem Ok.mid {Hc H : Hp} {X Y : List Rsc} (k : Ok c Hc H (O ++ (X ++ Y))) : Ok c Hc H (O ++ Y) := by
  obtain ⟨Fs, h1, h2, h3⟩ := k.opn
  obtain ⟨Gs, Ks, e, a1, a2⟩ := h1.split
  obtain ⟨Ms, Ns, e2, b1, b2⟩ := a2.split
  subst e2
  subst e
  simp only [List.flatten_append] at h2 h3
  refine ⟨k.same, k.sub, k.ext, k.new, k.old, Gs ++ Ns, a1.app b2, ?_, fun a ha => h3 a ?_⟩
  · rw [List.flatten_append]
    rw [List.nodup_append] at h2 ⊢
    obtain ⟨n1, n2, n3⟩ := h2
    exact ⟨n1, (List.nodup_append.mp n2).2.1, fun a ha b hb => n3 a ha b (List.mem_append_right _ hb)⟩
  · rw [List.flatten_append] at ha
    rcases List.mem_append.mp ha with q | q
    · exact List.mem_append_left _ q
    · exact List.mem_append_right _ (List.mem_append_right _ q)
theorem Ok.gh {Hc H : Hp} {X : List Rsc} {v : V} {d : D} (k : Ok c Hc H (O ++ (rGh v d :: X))) : Rp c.K Hc v d := by
  obtain ⟨Fs, h1, h2, h3⟩ := k.opn
  obtain ⟨Gs, Ks, e, a1, a2⟩ := h1.split
  cases a2 with
  | cons b1 b2 => exact b1.2
theorem sy_pre {X : List Rsc} (h : Sy c E O P) : Sy c E (O ++ X) P := fun σ H Hc k r => h σ H Hc k.pre r
theorem Ok.fresh {Hc H : Hp} {p : Addr} {ds : List D} (k : Ok c Hc H (O ++ [rLst p ds])) : ∃ vs, H p = some (.lst vs) ∧ RpAll c.K Hc vs ds ∧ Hc p = none ∧ (p ∈ c.M ∨ c.H0 p = none) := by
  obtain ⟨vs, h1, h2, h3, h4, _⟩ := k.pick (j := O.length) (p := p) (ds := ds) (by simp)
  exact ⟨vs, h1, h2, h3, h4⟩
theorem q_retF {ds : List D} (h : EvF c te E O ds) (q : RtF c dn.rt ds) (hM : c.M = []) : Sy c E O (tSeq (tRet te) tz dn) := fun σ H Hc k0 r =>
  h σ H Hc k0 r _ fun p H1 Hc1 k1 s1 t1 => by
    obtain ⟨vs, hv, rv, hn, hp⟩ := k1.fresh
    exact q p vs H1 Hc1 k1.nil hv rv hn (hp.resolve_left (by rw [hM]; simp))
/-- an open list is handed on as a new one -/
theorem q_retO {i : Nat} {p : Addr} {ds : List D} (j : Nat) (hi : E[i]? = some (some (.raw (.ref p)))) (hj : O[j]? = some (rLst p ds)) (q : RtF c dn.rt ds) (hM : c.M = []) : Sy c E O (tSeq (tRet (tVar i)) tz dn) := fun σ H Hc k0 r => by
  obtain ⟨v, h1, h2⟩ := r.2 i _ hi
  cases h2
  obtain ⟨vs, hv, rv, hn, hp, _⟩ := k0.pick hj
  exact ⟨_, h1, q p vs H Hc k0.nil hv rv hn (hp.resolve_left (by rw [hM]; simp))⟩
theorem q_retN (q : RtD c dn.rt .non) : Sy c E O (tSeq tRetN tz dn) := fun σ H Hc k0 r => q .non H Hc k0.nil .non
theorem q_end (q : RtD c dn.rt .non) (e : dn.nx = fun _ H => dn.rt .non H) : Sy c E O (tNext dn) := fun σ H Hc k0 r => by
  show dn.nx σ H
  rw [e]
  exact q .non H Hc k0.nil .non
/-- an open list is closed: from here on it is data -/
theorem q_close {i : Nat} {p : Addr} {ds : List D} (j : Nat) (hi : E[i]? = some (some (.raw (.ref p)))) (hj : O[j]? = some (rLst p ds)) (hM : c.M = []) (k : Sy c (E.set i (some (.lst ds))) (O.eraseIdx j) P) : Sy c E O P := fun σ H Hc k0 r => by
  obtain ⟨vs, hv, rv, hn, hp, _, k2⟩ := k0.pick hj
  have k2 := k2 (by rw [hM]; simp)
  have n1 : Same Hc (upd Hc p (.lst vs)) := fun a u e => by rw [upd_ne (ne_of_none e hn)]; exact e
  obtain ⟨v, h1, h2⟩ := r.2 i _ hi
  cases h2
  have hl : i < σ.length := (List.getElem?_eq_some_iff.mp h1).1
  have es : σ.set i (some (.ref p)) = σ := by
    apply List.ext_getElem?
    intro j
    by_cases hj : j = i
    · subst hj; rw [List.getElem?_set_self hl, h1]
    · rw [List.getElem?_set_ne (Ne.symm hj)]
  have r2 := (r.mono n1).set (i := i) (v := .ref p) (d := .lst ds) (.lst upd_same (rv.mono n1))
  rw [es] at r2
  exact k σ H _ k2 r2
/-- x.append(e) on an open list -/
theorem q_app {i : Nat} {p : Addr} {ds : List D} (j : Nat) (hi : E[i]? = some (some (.raw (.ref p)))) (hj : O[j]? = some (rLst p ds)) (h : Ev c te E O d) (hz : ds.length < sizeLine) (k : Sy c E (O.set j (rLst p (ds ++ [d]))) (tz dn)) :
    Sy c E O (tSeq (tDrop (tBM c.K "list" rAppend (tVar i) (tCons te tNil))) tz dn) := fun σ H Hc k0 r => by
  obtain ⟨v, h1, h2⟩ := r.2 i _ hi
  cases h2
  obtain ⟨vs0, hv0, rv0, _⟩ := k0.pick hj
  refine ⟨_, h1, .inl ⟨rfl, _, SqL.of hv0⟩, ?_⟩
  refine h σ H Hc k0 r _ fun v H1 Hc1 k1 s1 t1 r1 => ?_
  obtain ⟨vs, hv, rv, _, _, g, _⟩ := k1.pick hj
  exact ⟨p, vs, v, rfl, rfl, hv, by rw [rv.length]; exact hz, k σ _ Hc1 (g _ _ (rv.snoc r1)) (r.mono s1)⟩
/-- a state of such a kind -/
def At (c : Cn) (W : List (Option D) → List Rsc → Prop) : L2.St → Hp → Prop := fun σ H => ∃ E O Hc, W E O ∧ Ok c Hc H O ∧ EnvR c.K Hc σ E
theorem sy_at {W : List (Option D) → List Rsc → Prop} (h : W E O) : Sy c E O (At c W) := fun σ H Hc k r => ⟨E, O, Hc, h, k, r⟩
theorem at_sy {W : List (Option D) → List Rsc → Prop} (h : ∀ E O, W E O → Sy c E O P) : ∀ σ H, At c W σ H → P σ H := fun σ H ⟨E, O, Hc, w, k, r⟩ => h E O w σ H Hc k r
/-- just this state, or one of which more is known -/
def Is (E : List (Option D)) (O : List Rsc) : List (Option D) → List Rsc → Prop := fun E' O' => E' = E ∧ O' = O
theorem sy_is {X : List Rsc} (l : EnvLe E' E) (e : O' = O ++ X) : Sy c E' O' (At c (Is E O)) := fun σ H Hc k r => ⟨E, O, Hc, ⟨rfl, rfl⟩, by subst e; exact k.pre, r.le l⟩
/-! ### targets -/
def Gt (c : Cn) (g : TG) (x : D) (E E' : List (Option D)) : Prop := ∀ (σ : L2.St) (H Hc : Hp) (v : V) (Q : L2.St → Hp → Prop), Same Hc H → EnvR c.K Hc σ E → Rp c.K Hc v x → (∀ σ', EnvR c.K Hc σ' E' → Q σ' H) → g v σ H Q
def Gts (c : Cn) (g : TGs) (xs : List D) (E E' : List (Option D)) : Prop := ∀ (σ : L2.St) (H Hc : Hp) (vs : List V) (Q : L2.St → Hp → Prop), Same Hc H → EnvR c.K Hc σ E → RpAll c.K Hc vs xs → (∀ σ', EnvR c.K Hc σ' E' → Q σ' H) → g vs σ H Q
theorem gt_name {i : Nat} {x : D} : Gt c (gName i) x E (E.set i (some x)) := fun σ H Hc v Q _ r rv q => q _ (r.set rv)
theorem gts_nil : Gts c gNil [] E E := fun σ H Hc vs Q _ r rv q => by
  cases rv
  exact ⟨rfl, q σ r⟩
theorem gts_cons {g : TG} {gs : TGs} {x : D} {xs : List D} {E1 E2 : List (Option D)} (h : Gt c g x E E1) (hs : Gts c gs xs E1 E2) : Gts c (gCons g gs) (x :: xs) E E2 := fun σ H Hc vs Q s r rv q => by
  cases rv with
  | cons r1 r2 => exact ⟨_, _, rfl, h σ H Hc _ _ s r r1 fun σ' r' => hs σ' H Hc _ Q s r' r2 q⟩
theorem gt_tup {n : Nat} {gs : TGs} {xs : List D} {E1 : List (Option D)} (h : Gts c gs xs E E1) (hl : xs.length = n) : Gt c (gTup c.K n gs) (.tup xs) E E1 := fun σ H Hc v Q s r rv q => by
  cases rv with
  | tup s1 a1 => exact ⟨_, _, rfl, sqT_mono s s1, by rw [a1.length]; exact hl, h σ H Hc _ Q s r a1 q⟩
theorem q_asgG {g : TG} {E1 : List (Option D)} (h : Ev c te E O d) (hg : Gt c g d E E1) (k : Sy c E1 O (tz dn)) : Sy c E O (tSeq (tAsg te g) tz dn) := fun σ H Hc k0 r =>
  h σ H Hc k0 r _ fun v H1 Hc1 k1 s1 t1 r1 => hg σ H1 Hc1 v _ k1.sub (r.mono s1) r1 fun σ' r' => k σ' H1 Hc1 k1 r'
/-! ### loops -/
/-- what a loop walks: a list or a tuple of data, a range, a text .., with the fact that stays -/
structure WkD (c : Cn) (wi : TI) (E : List (Option D)) (O : List Rsc) (n : Nat) (f : Nat → D → Prop) where
  run : ∀ (σ : L2.St) (H Hc : Hp), Ok c Hc H O → EnvR c.K Hc σ E → ∀ R : It → Hp → Prop,
    (∀ J H' Hc' X, Ok c Hc' H' (O ++ X) → Same Hc Hc' → Same H H' → (∀ (i : Nat) (H2 Hc2 : Hp) (O2 Y : List Rsc), Ok c Hc2 H2 (O2 ++ (X ++ Y)) → i ≤ n →
      (i < n → J.go i H2 ∧ ∀ x H3, J.yld i H2 x H3 → ∃ Hc3 d, Ok c Hc3 H3 (O2 ++ (X ++ Y)) ∧ Same Hc2 Hc3 ∧ Same H2 H3 ∧ f i d ∧ Rp c.K Hc3 x d) ∧ (i = n → J.stop i H2)) → R J H') → wi σ H R
theorem q_for {wi : TI} {g : TG} {tb : TS} {n : Nat} {f : Nat → D → Prop} (w : WkD c wi E O n f) (Ei : Nat → List (Option D)) (Oi : Nat → List Rsc)
    (h0 : EnvLe E (Ei 0)) (hO : Oi 0 = O)
    (hs : ∀ i x X, i < n → f i x → ∃ E1, Gt c g x (Ei i) E1 ∧ Sy c E1 (Oi i ++ X) (tb { dn with nx := At c (Is (Ei (i + 1)) (Oi (i + 1) ++ X)), ct := At c (Is (Ei (i + 1)) (Oi (i + 1) ++ X)), bk := tz dn }))
    (hd : Sy c (Ei n) (Oi n) (tz dn)) : Sy c E O (tSeq (tFor wi g tb) tz dn) := fun σ H Hc k0 r => by
  subst hO
  refine w.run σ H Hc k0 r _ fun J H' Hc' X k' s' _ st => ?_
  refine ⟨fun i m σ2 H2 => m + i = n ∧ ∃ Hc2, Ok c Hc2 H2 (Oi i ++ X) ∧ EnvR c.K Hc2 σ2 (Ei i), ⟨n, rfl, Hc', k', (r.mono s').le h0⟩, ?_⟩
  rintro i m σ2 H2 ⟨hm, Hc2, k2, r2⟩
  have st2 := st i H2 Hc2 (Oi i) [] (by simpa using k2) (by omega)
  by_cases hi : i < n
  · obtain ⟨go, yl⟩ := st2.1 hi
    refine .inr ⟨go, At c (Is (Ei (i + 1)) (Oi (i + 1) ++ X)), ?_, fun x H3 y => ?_⟩
    · rintro σ3 H3 ⟨_, _, Hc3, ⟨rfl, rfl⟩, k3, r3⟩
      exact ⟨m - 1, by omega, by omega, Hc3, k3, r3⟩
    · obtain ⟨Hc3, d, k3, s3, _, fd, rd⟩ := yl x H3 y
      obtain ⟨E1, hg, hb⟩ := hs i d X hi fd
      exact hg σ2 H3 Hc3 x _ k3.sub (r2.mono s3) rd fun σ4 r4 => hb σ4 H3 Hc3 (by simpa using k3) r4
  · have e : i = n := by omega
    subst e
    exact .inl ⟨st2.2 rfl, hd σ2 H2 Hc2 k2.pre r2⟩
end
/-! ### promises -/
/-- the answer is data, nothing that stood is changed -/
def spD (K : Fg) (R : List D → D → Prop) : Sp := fun vs H Q _ => ∃ C ds d, Same C H ∧ RpAll K C vs ds ∧ R ds d ∧ RtD ⟨K, H, C, []⟩ Q d
/-- the answer is a new list -/
def spF (K : Fg) (R : List D → List D → Prop) : Sp := fun vs H Q _ => ∃ C ds d, Same C H ∧ RpAll K C vs ds ∧ R ds d ∧ RtF ⟨K, H, C, []⟩ Q d
theorem Ok.start {K : Fg} {H C : Hp} (h : Same C H) : Ok ⟨K, H, C, []⟩ C H [] := ⟨fun _ _ _ e => e, h, Same.refl _, fun a o e n => (by
  have n' : C a = none := n
  rw [n'] at e
  cases e), fun _ h => h, [], .nil, by simp, by simp⟩
theorem env_start {K : Fg} {C : Hp} {N : List Str} {vs : List V} {ds : List D} (r : RpAll K C vs ds) : EnvR K C (L2.start N vs) (ds.map some ++ List.replicate (N.length - ds.length) none) := by
  unfold L2.start
  refine ⟨by simp [r.length], fun i d e => ?_⟩
  by_cases hi : i < ds.length
  · rw [List.getElem?_append_left (by simpa using hi), List.getElem?_map] at e
    obtain ⟨d', h1, h2⟩ := Option.map_eq_some_iff.mp e
    cases h2
    obtain ⟨v, h3, h4⟩ := r.get h1
    refine ⟨v, ?_, h4⟩
    rw [List.getElem?_append_left (by simpa [r.length] using hi), List.getElem?_map, h3]
    rfl
  · rw [List.getElem?_append_right (by simpa using hi)] at e
    have := List.mem_of_getElem? e
    simp at this
/-- a def's body, from its start -/
theorem body_D {K : Fg} {R : List D → D → Prop} {N : List Str} {t : TS} (hb : ∀ (c : Cn) (ds : List D) (d : D) (dn : Ends), c.K = K → c.M = [] → R ds d → dn.nx = (fun _ H => dn.rt .non H) → RtD c dn.rt d → Sy c (ds.map some ++ List.replicate (N.length - ds.length) none) [] (t dn))
    (vs : List V) (H : Hp) (Q : VK) (E : XK) (h : spD K R vs H Q E) : t { nx := fun _ H' => Q .non H', rt := Q } (L2.start N vs) H := by
  obtain ⟨C, ds, d, hs, hr, hR, q⟩ := h
  exact hb ⟨K, H, C, []⟩ ds d { nx := fun _ H' => Q .non H', rt := Q } rfl rfl hR rfl q _ H C (Ok.start hs) (env_start hr)
theorem body_F {K : Fg} {R : List D → List D → Prop} {N : List Str} {t : TS} (hb : ∀ (c : Cn) (ds : List D) (d : List D) (dn : Ends), c.K = K → c.M = [] → R ds d → RtF c dn.rt d → Sy c (ds.map some ++ List.replicate (N.length - ds.length) none) [] (t dn))
    (vs : List V) (H : Hp) (Q : VK) (E : XK) (h : spF K R vs H Q E) : t { nx := fun _ H' => Q .non H', rt := Q } (L2.start N vs) H := by
  obtain ⟨C, ds, d, hs, hr, hR, q⟩ := h
  exact hb ⟨K, H, C, []⟩ ds d { nx := fun _ H' => Q .non H', rt := Q } rfl rfl hR q _ H C (Ok.start hs) (env_start hr)
theorem len_D {K : Fg} {R : List D → D → Prop} {n : Nat} (hl : ∀ ds d, R ds d → ds.length = n) : ∀ vs H Q E, spD K R vs H Q E → vs.length = n := fun vs H Q E ⟨C, ds, d, _, hr, hR, _⟩ => by rw [hr.length]; exact hl ds d hR
theorem len_F {K : Fg} {R : List D → List D → Prop} {n : Nat} (hl : ∀ ds d, R ds d → ds.length = n) : ∀ vs H Q E, spF K R vs H Q E → vs.length = n := fun vs H Q E ⟨C, ds, d, _, hr, hR, _⟩ => by rw [hr.length]; exact hl ds d hR
section
variable {c : Cn} {E E' : List (Option D)} {O O' : List Rsc} {te ta tb : TE} {d d1 d2 : D} {ds es : List D} {P P' : L2.St → Hp → Prop} {dn : Ends} {ts tu tz : TS}
/-- behind a callee that changed nothing -/
theorem Ok.afterF {Hc H Hc' H' : Hp} (k : Ok c Hc H O) (k' : Ok ⟨c.K, H, Hc, []⟩ Hc' H' []) {Fs : List (List Addr)} (h1 : RsAll c.K Hc H O Fs) (h3 : ∀ a ∈ Fs.flatten, Hc a = none ∧ (a ∈ c.M ∨ c.H0 a = none)) :
    RsAll c.K Hc' H' O Fs ∧ ∀ a ∈ Fs.flatten, Hc' a = none ∧ (a ∈ c.M ∨ c.H0 a = none) := by
  have s1 : Same H H' := fun a o e => k'.same a o (by simp) e
  have ha : ∀ a ∈ Fs.flatten, H' a = H a := fun a ha => by
    cases q : H a with
    | none => exact absurd q (h1.there a ha)
    | some o => exact s1 a o q
  refine ⟨h1.mono k'.ext ha, fun a h => ⟨?_, (h3 a h).2⟩⟩
  cases q : Hc' a with
  | none => rfl
  | some u => exact absurd (k'.new a u q (h3 a h).1) (h1.there a h)
theorem Ok.after {Hc H Hc' H' : Hp} (k : Ok c Hc H O) (k' : Ok ⟨c.K, H, Hc, []⟩ Hc' H' []) : Ok c Hc' H' O := by
  obtain ⟨Fs, h1, h2, h3⟩ := k.opn
  have s1 : Same H H' := fun a o e => k'.same a o (by simp) e
  obtain ⟨g1, g2⟩ := k.afterF k' h1 h3
  refine ⟨fun a o hm e => s1 a o (k.same a o hm e), k'.sub, k.ext.trans k'.ext, fun a o e n => ?_, fun a h => k'.old a (k.old a h), Fs, g1, h2, g2⟩
  cases q : Hc a with
  | some u => exact k.new a u q n
  | none => exact Classical.byContradiction fun z => k.old a z (k'.new a o e q)
theorem ev_call {R : List D → D → Prop} {t : TA} {XE : XK} (ha : EvA c t E O ds) (hR : R ds d) : Ev c (tCall (spD c.K R) [] XE t) E O d := fun σ H Hc k r Q q =>
  ha σ H Hc k r _ fun vs H1 Hc1 k1 s1 t1 r1 => ⟨Hc1, ds, d, k1.sub, by rw [List.append_nil]; exact r1, hR, fun v H2 Hc2 k2 rv => q v H2 Hc2 (k1.after k2) (s1.trans k2.ext) (t1.trans fun a o e => k2.same a o (by simp) e) rv⟩
/-- nothing in it hangs on the heap -/
def flat : D → Bool
  | .non | .bl _ | .int _ | .str _ => true
  | _ => false
theorem Rp.flat {K : Fg} {H H' : Hp} {v : V} {d : D} (h : flat d = true) (r : Rp K H v d) : Rp K H' v d := by
  cases r <;> first | cases h; done | constructor
/-- .. handed what is open, too; its answer is flat -/
theorem ev_callH {R : List D → D → Prop} {t : TA} {XE : XK} (ha : EvAH c t E O ds) (hR : R ds d) (hf : CW.flat d = true) : Ev c (tCall (spD c.K R) [] XE t) E O d := fun σ H Hc k r Q q =>
  ha σ H Hc k r _ fun vs H1 Hc1 k1 s1 t1 r1 => ⟨H1, ds, d, Same.refl _, by rw [List.append_nil]; exact r1, hR, fun v H2 Hc2 k2 rv => by
    have s2 : Same H1 H2 := fun a o e => k2.same a o (by simp) e
    refine q v H2 Hc1 (k1.after ⟨fun a o _ e => s2 a o e, k1.sub.trans s2, Same.refl _, fun a o e n => ?_, k2.old, [], .nil, by simp, by simp⟩) s1 (t1.trans s2) (rv.flat hf)
    have n' : Hc1 a = none := n
    rw [n'] at e; cases e⟩
theorem ef_call {R : List D → List D → Prop} {t : TA} {XE : XK} (ha : EvA c t E O ds) (hR : R ds es) : EvF c (tCall (spF c.K R) [] XE t) E O es := fun σ H Hc k r Q q =>
  ha σ H Hc k r _ fun vs H1 Hc1 k1 s1 t1 r1 => ⟨Hc1, ds, es, k1.sub, by rw [List.append_nil]; exact r1, hR, fun p ws H2 Hc2 k2 hp rp hn h0 => by
    have k3 := k1.after k2
    refine q p H2 Hc2 ?_ (s1.trans k2.ext) (t1.trans fun a o e => k2.same a o (by simp) e)
    obtain ⟨Fs, b1, a2, b3⟩ := k1.opn
    obtain ⟨a1, a3⟩ := k1.afterF k2 b1 b3
    have np : ∀ a ∈ Fs.flatten, a ≠ p := fun a ha z => b1.there a ha (by rw [z]; exact h0)
    refine ⟨k3.same, k3.sub, k3.ext, k3.new, k3.old, Fs ++ [[p]], a1.app (.cons ⟨rfl, ws, hp, rp⟩ .nil), ?_, fun a ha => ?_⟩
    · rw [List.flatten_append, List.nodup_append]
      exact ⟨a2, by simp, fun a ha b hb => by
        have e : b = p := by simpa using hb
        rw [e]; exact np a ha⟩
    · rw [List.flatten_append] at ha
      rcases List.mem_append.mp ha with q | q
      · exact a3 a q
      · have e : a = p := by simpa using q
        rw [e]
        exact ⟨hn, .inr (Classical.byContradiction fun z => k1.old p z h0)⟩⟩
end
/-! ### operators for ints, texts, lists, tuples at once -/
def uAdd (K : Fg) : R2 := fun x y H Q => rI0 (fun i j => .int (i + j)) x y H Q ∨ ((∃ i j, x = .str i ∧ y = .str j ∧ i.length + j.length ≤ sizeLine ∧ Q (.str (i ++ j)) H) ∨ (rCat x y H Q ∨ rCatT K x y H Q))
theorem op_uAdd {X : Cx} : OpR X (binaryOp .Add) (uAdd X.K) := op_add.or (op_add_str.or (op_cat.or op_catT))
def uSub : R2 := rI0 fun i j => .int (i - j)
theorem op_uSub {X : Cx} : OpR X (binaryOp .Sub) uSub := op_sub
def uMul : R2 := fun x y H Q => rI CMul (fun i j => .int (i * j)) x y H Q ∨ rRep x y H Q
theorem op_uMul {X : Cx} : OpR X (binaryOp .Mult) uMul := op_mul.or op_rep
def uDiv : R2 := rI CDiv fun i j => .int (i / j)
theorem op_uDiv {X : Cx} : OpR X (binaryOp .FloorDiv) uDiv := op_fdiv
def uMod : R2 := rI (fun _ j => 0 < j) fun i j => .int (i % j)
theorem op_uMod {X : Cx} : OpR X (binaryOp .Mod) uMod := op_mod
def uPow : R2 := rI CPow fun i j => .int (i ^ j.toNat)
theorem op_uPow {X : Cx} : OpR X (binaryOp .Pow) uPow := op_pow
def uLt : R2 := rI0 fun i j => .bl (decide (i < j))
theorem op_uLt {X : Cx} : OpR X (compareOp .Lt) uLt := op_lt
def uLe : R2 := rI0 fun i j => .bl (decide (i ≤ j))
theorem op_uLe {X : Cx} : OpR X (compareOp .LtE) uLe := op_le
def uGt : R2 := rI0 fun i j => .bl (decide (j < i))
theorem op_uGt {X : Cx} : OpR X (compareOp .Gt) uGt := op_gt
def uGe : R2 := rI0 fun i j => .bl (decide (j ≤ i))
theorem op_uGe {X : Cx} : OpR X (compareOp .GtE) uGe := op_ge
def uIn (K : Fg) : R2 := fun x y H Q => (∃ (c : Nat) (z : Str), x = .str ⟨#[c]⟩ ∧ y = .str z ∧ Q (.bl (decide (c ∈ z.cps.toList))) H) ∨ rIn K false x y H Q
theorem op_uIn {X : Cx} : OpR X (compareOp .In) (uIn X.K) := op_in_sign.or op_in_seq
def uNotIn (K : Fg) : R2 := fun x y H Q => (∃ (c : Nat) (z : Str), x = .str ⟨#[c]⟩ ∧ y = .str z ∧ Q (.bl (!decide (c ∈ z.cps.toList))) H) ∨ rIn K true x y H Q
theorem op_uNotIn {X : Cx} : OpR X (compareOp .NotIn) (uNotIn X.K) := op_notIn_sign.or op_notIn_seq
def uIs : R2 := fun x y H Q => y = .non ∧ Q (.bl (decide (x = .non))) H
theorem op_uIs {X : Cx} : OpR X (compareOp .Is) uIs := op_isN
def uIsNot : R2 := fun x y H Q => y = .non ∧ Q (.bl (!decide (x = .non))) H
theorem op_uIsNot {X : Cx} : OpR X (compareOp .IsNot) uIsNot := op_notN
def uEq (K : Fg) : R2 := rEqD K
theorem op_uEq {X : Cx} (hu : X.A.units + 64 < cLine) : OpR X (compareOp .Eq) (uEq X.K) := op_eqD hu
def uNe (K : Fg) : R2 := rNeD K
theorem op_uNe {X : Cx} (hu : X.A.units + 64 < cLine) : OpR X (compareOp .NotEq) (uNe X.K) := op_neD hu
section
variable {K : Fg}
theorem od_add {i j : Int} : OpD K (uAdd K) (.int i) (.int j) (.int (i + j)) := fun x y H Q rx ry q => by
  cases rx; cases ry
  exact .inl ⟨i, j, rfl, rfl, q _ fun _ => .int _⟩
theorem od_addS {l m : List Nat} (h : l.length + m.length ≤ sizeLine) : OpD K (uAdd K) (.str l) (.str m) (.str (l ++ m)) := fun x y H Q rx ry q => by
  cases rx; cases ry
  refine .inr (.inl ⟨S l, S m, rfl, rfl, by rw [S_len, S_len]; exact h, ?_⟩)
  rw [S_app]
  exact q _ fun _ => .str _
theorem od_sub {i j : Int} : OpD K uSub (.int i) (.int j) (.int (i - j)) := fun x y H Q rx ry q => by
  cases rx; cases ry
  exact ⟨i, j, rfl, rfl, q _ fun _ => .int _⟩
theorem od_mul {i j : Int} (h : CMul i j) : OpD K uMul (.int i) (.int j) (.int (i * j)) := fun x y H Q rx ry q => by
  cases rx; cases ry
  exact .inl ⟨i, j, rfl, rfl, h, q _ fun _ => .int _⟩
theorem od_div {i j : Int} (h : CDiv i j) : OpD K uDiv (.int i) (.int j) (.int (i / j)) := fun x y H Q rx ry q => by
  cases rx; cases ry
  exact ⟨i, j, rfl, rfl, h, q _ fun _ => .int _⟩
theorem od_mod {i j : Int} (h : 0 < j) : OpD K uMod (.int i) (.int j) (.int (i % j)) := fun x y H Q rx ry q => by
  cases rx; cases ry
  exact ⟨i, j, rfl, rfl, h, q _ fun _ => .int _⟩
theorem od_pow {i j : Int} (h : CPow i j) : OpD K uPow (.int i) (.int j) (.int (i ^ j.toNat)) := fun x y H Q rx ry q => by
  cases rx; cases ry
  exact ⟨i, j, rfl, rfl, h, q _ fun _ => .int _⟩
theorem od_lt {i j : Int} : OpD K uLt (.int i) (.int j) (.bl (decide (i < j))) := fun x y H Q rx ry q => by
  cases rx; cases ry
  exact ⟨i, j, rfl, rfl, q _ fun _ => .bl _⟩
theorem od_le {i j : Int} : OpD K uLe (.int i) (.int j) (.bl (decide (i ≤ j))) := fun x y H Q rx ry q => by
  cases rx; cases ry
  exact ⟨i, j, rfl, rfl, q _ fun _ => .bl _⟩
theorem od_gt {i j : Int} : OpD K uGt (.int i) (.int j) (.bl (decide (j < i))) := fun x y H Q rx ry q => by
  cases rx; cases ry
  exact ⟨i, j, rfl, rfl, q _ fun _ => .bl _⟩
theorem od_ge {i j : Int} : OpD K uGe (.int i) (.int j) (.bl (decide (j ≤ i))) := fun x y H Q rx ry q => by
  cases rx; cases ry
  exact ⟨i, j, rfl, rfl, q _ fun _ => .bl _⟩
/-- one sign in a text -/
theorem od_inS {a : Nat} {l : List Nat} : OpD K (uIn K) (.str [a]) (.str l) (.bl (decide (a ∈ l))) := fun x y H Q rx ry q => by
  cases rx; cases ry
  exact .inl ⟨a, S l, rfl, rfl, q _ fun _ => .bl _⟩
theorem od_ninS {a : Nat} {l : List Nat} : OpD K (uNotIn K) (.str [a]) (.str l) (.bl (!decide (a ∈ l))) := fun x y H Q rx ry q => by
  cases rx; cases ry
  exact .inl ⟨a, S l, rfl, rfl, q _ fun _ => .bl _⟩
theorem od_isN {d : D} (h : ∀ v, d ≠ .raw v) : OpD K uIs d .non (.bl (match d with | .non => true | _ => false)) := fun x y H Q rx ry q => by
  cases ry
  refine ⟨rfl, q _ fun Hc => ?_⟩
  cases rx <;> first | exact absurd rfl (h _) | exact .bl _
theorem od_notN {d : D} (h : ∀ v, d ≠ .raw v) : OpD K uIsNot d .non (.bl (match d with | .non => false | _ => true)) := fun x y H Q rx ry q => by
  cases ry
  refine ⟨rfl, q _ fun Hc => ?_⟩
  cases rx <;> first | exact absurd rfl (h _) | exact .bl _
end
/-! ### what is a list, what is a list or a tuple -/
inductive IsL : D → List D → Prop
  | lst (ds : List D) : IsL (.lst ds) ds
  | ro (ds : List D) : IsL (.ro ds) ds
inductive IsQ : D → List D → Prop
  | lst (ds : List D) : IsQ (.lst ds) ds
  | ro (ds : List D) : IsQ (.ro ds) ds
  | tup (ds : List D) : IsQ (.tup ds) ds
theorem Rp.lq {K : Fg} {H : Hp} {v : V} {d : D} {ds : List D} (h : IsL d ds) (r : Rp K H v d) : ∃ a xs, v = .ref a ∧ SqL K H a xs ∧ RpAll K H xs ds := by
  cases h with
  | lst =>
    cases r with
    | lst s a => exact ⟨_, _, rfl, SqL.of s, a⟩
  | ro =>
    cases r with
    | ro s a => exact ⟨_, _, rfl, s, a⟩
theorem Rp.qq {K : Fg} {H : Hp} {v : V} {d : D} {ds : List D} (h : IsQ d ds) (r : Rp K H v d) : ∃ a xs, v = .ref a ∧ (SqL K H a xs ∨ SqT K H a xs) ∧ RpAll K H xs ds := by
  cases h with
  | lst =>
    cases r with
    | lst s a => exact ⟨_, _, rfl, .inl (SqL.of s), a⟩
  | ro =>
    cases r with
    | ro s a => exact ⟨_, _, rfl, .inl s, a⟩
  | tup =>
    cases r with
    | tup s a => exact ⟨_, _, rfl, .inr s, a⟩
/-! ### subscripts, slices, len -/
theorem RpAll.atI {K : Fg} {H : Hp} {vs : List V} {ds : List D} {i : Int} {d : D} (r : RpAll K H vs ds) (h : L2.atI ds i = some d) : ∃ v, L2.atI vs i = some v ∧ Rp K H v d := by
  unfold L2.atI at h ⊢
  rw [r.length]
  cases e : ixN ds.length i with
  | none => rw [e] at h; cases h
  | some j =>
    rw [e] at h
    exact r.get h
section
variable {K : Fg}
theorem od_ix {q d : D} {ds : List D} {i : Int} (h : IsQ q ds) (ha : L2.atI ds i = some d) : OpC K (rIx K) q (.int i) d := fun x y Hc H Q s rx ry k => by
  obtain ⟨a, xs, rfl, hs, r⟩ := rx.qq h
  cases ry
  obtain ⟨v, hv, rv⟩ := r.atI ha
  rcases hs with hs | hs
  · exact .inl ⟨a, xs, i, v, rfl, rfl, s.seq hs, hv, k v rv⟩
  · exact .inr (.inl ⟨a, xs, i, v, rfl, rfl, sqT_mono s hs, hv, k v rv⟩)
theorem od_ixS {l : List Nat} {i : Int} {a : Nat} (hl : l.length ≤ sizeLine) (ha : L2.atI l i = some a) : OpC K (rIx K) (.str l) (.int i) (.str [a]) := fun x y Hc H Q s rx ry k => by
  cases rx; cases ry
  exact .inr (.inr ⟨S l, i, a, rfl, rfl, by rw [S_len]; exact hl, ha, k _ (.str _)⟩)
def uLen (K : Fg) : List V → Hp → VK → Prop := fun xs H Q => (∃ p ys, xs = [.ref p] ∧ (SqL K H p ys ∨ SqT K H p ys) ∧ Q (.int ys.length) H) ∨ (∃ z, xs = [.str z] ∧ z.length ≤ sizeLine ∧ Q (.int z.length) H)
theorem call_uLen {X : Cx} : CallR X (.builtin "len") (uLen X.K) := call_len_seq.or call_len_str
end
section
variable {c : Cn} {E E' : List (Option D)} {O O' : List Rsc} {te ta tb : TE} {d d1 d2 : D} {ds es : List D} {P P' : L2.St → Hp → Prop} {dn : Ends} {ts tu tz : TS}
theorem ev_len {q : D} (h : EvH c te E O q) (hq : IsQ q ds) : Ev c (tCB (uLen c.K) (tCons te tNil)) E O (.int (ds.length : Int)) := fun σ H Hc k r Q q' =>
  h σ H Hc k r _ fun v H1 Hc1 k1 s1 t1 r1 => by
    obtain ⟨a, xs, rfl, hs, ra⟩ := r1.qq hq
    refine .inl ⟨a, xs, rfl, hs, ?_⟩
    rw [ra.length]
    exact q' _ H1 Hc1 k1 s1 t1 (.int _)
theorem ev_lenS {l : List Nat} (h : EvH c te E O (.str l)) (hl : l.length ≤ sizeLine) : Ev c (tCB (uLen c.K) (tCons te tNil)) E O (.int (l.length : Int)) := fun σ H Hc k r Q q' =>
  h σ H Hc k r _ fun v H1 Hc1 k1 s1 t1 r1 => by
    cases r1
    refine .inr ⟨S l, rfl, by rw [S_len]; exact hl, ?_⟩
    rw [S_len]
    exact q' _ H1 Hc1 k1 s1 t1 (.int _)
/-- a part of a slice -/
def EvO (c : Cn) (to : TO) (E : List (Option D)) (O : List Rsc) (o : Option Int) : Prop := ∀ (σ : L2.St) (H Hc : Hp), Ok c Hc H O → EnvR c.K Hc σ E → ∀ Q : Option Int → Hp → Prop,
  (∀ H' Hc', Ok c Hc' H' O → Same Hc Hc' → Same H H' → Q o H') → to σ H Q
theorem eo_none : EvO c tNoPart E O none := fun σ H Hc k r Q q => q H Hc k (Same.refl _) (Same.refl _)
theorem eo_some {i : Int} (h : Ev c te E O (.int i)) : EvO c (tPart te) E O (some i) := fun σ H Hc k r Q q => h σ H Hc k r _ fun v H1 Hc1 k1 s1 t1 r1 => by
  cases r1
  exact ⟨i, rfl, q H1 Hc1 k1 s1 t1⟩
def uSl (K : Fg) : V → Option Int → Option Int → Hp → VK → Prop := fun x lo hi H Q => rSlS x lo hi H Q ∨ (rSlL K x lo hi H Q ∨ rSlT K x lo hi H Q)
theorem sl_uSl {X : Cx} : SlR X (uSl X.K) := SlR.or sl_str (SlR.or sl_list sl_tup)
/-- the signs from lo to hi -/
def cutL {α : Type} (l : List α) (lo hi : Option Int) : List α := (l.drop (HT.sIx l.length 0 lo)).take (HT.sIx l.length l.length hi - HT.sIx l.length 0 lo)
theorem cutS_S (l : List Nat) (lo hi : Option Int) : cutS (S l) lo hi = S (cutL l lo hi) := by
  unfold cutS cutL
  rw [S_len]
theorem cutV_L (xs : List V) (lo hi : Option Int) : cutV xs lo hi = cutL xs lo hi := rfl
theorem RpAll.cut {K : Fg} {H : Hp} {vs : List V} {ds : List D} (r : RpAll K H vs ds) (lo hi : Option Int) : RpAll K H (cutL vs lo hi) (cutL ds lo hi) := by
  unfold cutL
  rw [r.length]
  exact (r.drop _).take _
theorem cutL_from {α : Type} (l : List α) (k : Nat) : cutL l (some (k : Int)) none = l.drop k := by
  unfold cutL
  rw [HT.sIx_none, HT.sIx_nat, List.take_of_length_le (by rw [List.length_drop]; omega)]
  by_cases h : k ≤ l.length
  · rw [Nat.min_eq_left h]
  · rw [Nat.min_eq_right (by omega), List.drop_eq_nil_of_le (Nat.le_refl _), List.drop_eq_nil_of_le (by omega)]
theorem cutL_to {α : Type} (l : List α) (k : Nat) : cutL l none (some (k : Int)) = l.take k := by
  unfold cutL
  rw [HT.sIx_none, HT.sIx_nat, List.drop_zero, Nat.sub_zero]
  by_cases h : k ≤ l.length
  · rw [Nat.min_eq_left h]
  · rw [Nat.min_eq_right (by omega), List.take_of_length_le (Nat.le_refl _), List.take_of_length_le (by omega)]
theorem cutL_mid {α : Type} (l : List α) (k m : Nat) : cutL l (some (k : Int)) (some (m : Int)) = (l.drop k).take (m - k) := by
  unfold cutL
  rw [HT.sIx_nat, HT.sIx_nat]
  by_cases h : k ≤ l.length
  · rw [Nat.min_eq_left h]
    by_cases h2 : m ≤ l.length
    · rw [Nat.min_eq_left h2]
    · rw [Nat.min_eq_right (by omega), List.take_of_length_le (by rw [List.length_drop]; omega), List.take_of_length_le (by rw [List.length_drop]; omega)]
  · have e : min k l.length = l.length := Nat.min_eq_right (by omega)
    rw [e, List.drop_eq_nil_of_le (Nat.le_refl _), List.drop_eq_nil_of_le (by omega)]
    simp
theorem ev_slS {l : List Nat} {tl th : TO} {lo hi : Option Int} (h : EvH c te E O (.str l)) (h1 : EvO c tl E O lo) (h2 : EvO c th E O hi) (hl : l.length ≤ sizeLine) : Ev c (tSl (uSl c.K) te tl th) E O (.str (cutL l lo hi)) := fun σ H Hc k r Q q =>
  h σ H Hc k r _ fun v H1 Hc1 k1 s1 t1 r1 => h1 σ H1 Hc1 k1 (r.mono s1) _ fun H2 Hc2 k2 s2 t2 => h2 σ H2 Hc2 k2 ((r.mono s1).mono s2) _ fun H3 Hc3 k3 s3 t3 => by
    cases r1
    refine .inl ⟨S l, rfl, by rw [S_len]; exact hl, ?_⟩
    rw [cutS_S]
    exact q _ H3 Hc3 k3 ((s1.trans s2).trans s3) ((t1.trans t2).trans t3) (.str _)
theorem ef_slL {q : D} {tl th : TO} {lo hi : Option Int} (h : Ev c te E O q) (hq : IsL q ds) (h1 : EvO c tl E O lo) (h2 : EvO c th E O hi) : EvF c (tSl (uSl c.K) te tl th) E O (cutL ds lo hi) := fun σ H Hc k r Q q' =>
  h σ H Hc k r _ fun v H1 Hc1 k1 s1 t1 r1 => h1 σ H1 Hc1 k1 (r.mono s1) _ fun H2 Hc2 k2 s2 t2 => h2 σ H2 Hc2 k2 ((r.mono s1).mono s2) _ fun H3 Hc3 k3 s3 t3 => by
    obtain ⟨a, xs, rfl, hs, ra⟩ := r1.lq hq
    have s23 := s2.trans s3
    refine .inr (.inl ⟨a, xs, rfl, (s23.trans k3.sub).seq hs, fun p hp => ?_⟩)
    have n2 : Same H3 (upd H3 p (.lst (cutV xs lo hi))) := fun a u e => by rw [upd_ne (ne_of_none e hp)]; exact e
    exact q' p _ Hc3 (k3.open hp ((ra.mono s23).cut lo hi)) (s1.trans s23) (((t1.trans t2).trans t3).trans n2)
theorem ev_slT {tl th : TO} {lo hi : Option Int} (h : Ev c te E O (.tup ds)) (h1 : EvO c tl E O lo) (h2 : EvO c th E O hi) (hn : ¬ (HT.sIx ds.length 0 lo = 0 ∧ HT.sIx ds.length ds.length hi = ds.length)) : Ev c (tSl (uSl c.K) te tl th) E O (.tup (cutL ds lo hi)) := fun σ H Hc k r Q q' =>
  h σ H Hc k r _ fun v H1 Hc1 k1 s1 t1 r1 => h1 σ H1 Hc1 k1 (r.mono s1) _ fun H2 Hc2 k2 s2 t2 => h2 σ H2 Hc2 k2 ((r.mono s1).mono s2) _ fun H3 Hc3 k3 s3 t3 => by
    cases r1 with
    | tup hs ra =>
      rename_i a xs
      have s23 := s2.trans s3
      refine .inr (.inr ⟨a, xs, rfl, sqT_mono (s23.trans k3.sub) hs, by rw [ra.length]; exact hn, fun p hp => ?_⟩)
      have hc := k3.sub.free hp
      have n1 : Same Hc3 (upd Hc3 p (.tup (cutV xs lo hi))) := fun a u e => by rw [upd_ne (ne_of_none e hc)]; exact e
      have n2 : Same H3 (upd H3 p (.tup (cutV xs lo hi))) := fun a u e => by rw [upd_ne (ne_of_none e hp)]; exact e
      exact q' _ _ _ (k3.laid hp) ((s1.trans s23).trans n1) (((t1.trans t2).trans t3).trans n2) (.tup (SqT.of upd_same) (((ra.mono s23).cut lo hi).mono n1))
/-! ### list(..), tuple(..), join -/
def uList (K : Fg) : List V → Hp → VK → Prop := fun xs H Q => ∃ p ys, xs = [.ref p] ∧ (SqL K H p ys ∨ SqT K H p ys) ∧ ∀ l, H l = none → Q (.ref l) (upd H l (.lst ys))
theorem call_uList {X : Cx} : CallR X (.type "list") (uList X.K) := call_list_of
def uTuple (K : Fg) : List V → Hp → VK → Prop := fun xs H Q => ∃ p ys, xs = [.ref p] ∧ ((SqL K H p ys ∧ ∀ l, H l = none → Q (.ref l) (upd H l (.tup ys))) ∨ (SqT K H p ys ∧ Q (.ref p) H))
theorem call_uTuple {X : Cx} : CallR X (.type "tuple") (uTuple X.K) := call_tuple_of
/-- list(..) of what is closed -/
theorem ef_list {q : D} (h : Ev c te E O q) (hq : IsQ q ds) : EvF c (tCB (uList c.K) (tCons te tNil)) E O ds := fun σ H Hc k r Q q' => h σ H Hc k r _ fun v H1 Hc1 k1 s1 t1 r1 => by
  obtain ⟨a, xs, rfl, hs, ra⟩ := r1.qq hq
  refine ⟨a, xs, rfl, hs.imp (fun z => k1.sub.seq z) (fun z => sqT_mono k1.sub z), fun p hp => ?_⟩
  have n2 : Same H1 (upd H1 p (.lst xs)) := fun a u e => by rw [upd_ne (ne_of_none e hp)]; exact e
  exact q' p _ Hc1 (k1.open hp ra) s1 (t1.trans n2)
/-- list(..) of an open list -/
theorem ef_listO {i j : Nat} {p : Addr} (hi : E[i]? = some (some (.raw (.ref p)))) (hj : O[j]? = some (rLst p ds)) : EvF c (tCB (uList c.K) (tCons (tVar i) tNil)) E O ds := fun σ H Hc k r Q q' => by
  obtain ⟨v, h1, h2⟩ := r.2 i _ hi
  cases h2
  obtain ⟨vs, hv, rv, _⟩ := k.pick hj
  refine ⟨_, h1, p, vs, rfl, .inl (SqL.of hv), fun l hl => ?_⟩
  have n2 : Same H (upd H l (.lst vs)) := fun a u e => by rw [upd_ne (ne_of_none e hl)]; exact e
  exact q' l _ Hc (k.open hl rv) (Same.refl _) n2
/-- tuple(..) of a closed list -/
theorem ev_tupleL {q : D} (h : Ev c te E O q) (hq : IsL q ds) : Ev c (tCB (uTuple c.K) (tCons te tNil)) E O (.tup ds) := fun σ H Hc k r Q q' => h σ H Hc k r _ fun v H1 Hc1 k1 s1 t1 r1 => by
  obtain ⟨a, xs, rfl, hs, ra⟩ := r1.lq hq
  refine ⟨a, xs, rfl, .inl ⟨k1.sub.seq hs, fun p hp => ?_⟩⟩
  have hc := k1.sub.free hp
  have n1 : Same Hc1 (upd Hc1 p (.tup xs)) := fun a u e => by rw [upd_ne (ne_of_none e hc)]; exact e
  have n2 : Same H1 (upd H1 p (.tup xs)) := fun a u e => by rw [upd_ne (ne_of_none e hp)]; exact e
  exact q' _ _ _ (k1.laid hp) (s1.trans n1) (t1.trans n2) (.tup (SqT.of upd_same) (ra.mono n1))
/-- .. of an open one -/
theorem ev_tupleO {i j : Nat} {p : Addr} (hi : E[i]? = some (some (.raw (.ref p)))) (hj : O[j]? = some (rLst p ds)) : Ev c (tCB (uTuple c.K) (tCons (tVar i) tNil)) E O (.tup ds) := fun σ H Hc k r Q q' => by
  obtain ⟨v, h1, h2⟩ := r.2 i _ hi
  cases h2
  obtain ⟨vs, hv, rv, _⟩ := k.pick hj
  refine ⟨_, h1, p, vs, rfl, .inl ⟨SqL.of hv, fun l hl => ?_⟩⟩
  have hc := k.sub.free hl
  have n1 : Same Hc (upd Hc l (.tup vs)) := fun a u e => by rw [upd_ne (ne_of_none e hc)]; exact e
  have n2 : Same H (upd H l (.tup vs)) := fun a u e => by rw [upd_ne (ne_of_none e hl)]; exact e
  exact q' _ _ _ (k.laid hl) n1 n2 (.tup (SqT.of upd_same) (rv.mono n1))
/-- .. of a new one that nobody else holds -/
theorem ev_tupleF (h : EvF c te E O ds) : Ev c (tCB (uTuple c.K) (tCons te tNil)) E O (.tup ds) := fun σ H Hc k r Q q' => h σ H Hc k r _ fun p H1 Hc1 k1 s1 t1 => by
  obtain ⟨vs, hv, rv, _⟩ := k1.fresh
  refine ⟨p, vs, rfl, .inl ⟨SqL.of hv, fun l hl => ?_⟩⟩
  have hc := k1.sub.free hl
  have n1 : Same Hc1 (upd Hc1 l (.tup vs)) := fun a u e => by rw [upd_ne (ne_of_none e hc)]; exact e
  have n2 : Same H1 (upd H1 l (.tup vs)) := fun a u e => by rw [upd_ne (ne_of_none e hl)]; exact e
  exact q' _ _ _ (k1.laid hl).pre (s1.trans n1) (t1.trans n2) (.tup (SqT.of upd_same) (rv.mono n1))
/-- a list display etc. handed where only its items are read -/
theorem eh_ofF (h : EvF c te E O ds) : EvH c te E O (.lst ds) := fun σ H Hc k r Q q' => h σ H Hc k r _ fun p H1 Hc1 k1 s1 t1 => by
  obtain ⟨vs, hv, rv, _⟩ := k1.fresh
  exact q' _ H1 Hc1 k1.pre s1 t1 (.lst hv (rv.mono k1.sub))
def joinL (s : List Nat) : List (List Nat) → List Nat
  | [] => []
  | [x] => x
  | x :: y :: r => x ++ s ++ joinL s (y :: r)
theorem join_S (s : List Nat) : ∀ ls : List (List Nat), Str.join (S s) (ls.map S) = S (joinL s ls)
  | [] => rfl
  | [x] => rfl
  | x :: y :: r => by
    show S x ++ S s ++ Str.join (S s) (S y :: r.map S) = _
    have ih := join_S s (y :: r)
    rw [List.map_cons] at ih
    rw [ih, S_app, S_app]
    rfl
abbrev uJoin (K : Fg) : V → List V → Hp → VK → Prop := fun x xs H Q => ∃ a p, ∃ ys : List Str, x = .str a ∧ xs = [.ref p] ∧ (SqL K H p (ys.map V.str) ∨ SqT K H p (ys.map V.str)) ∧ (ys.map (·.length)).sum + ys.length * a.length ≤ 16777216 ∧ Q (.str (Txt.join a ys)) H
theorem ev_join {s : List Nat} {ls : List (List Nat)} {q : D} (h1 : EvH c ta E O (.str s)) (h2 : EvH c te E O q) (hq : IsQ q (ls.map D.str)) (hz : (ls.map (·.length)).sum + ls.length * s.length ≤ 16777216) :
    Ev c (tM1 (uJoin c.K) ta te) E O (.str (joinL s ls)) := fun σ H Hc k r Q q' =>
  h1 σ H Hc k r _ fun v H1 Hc1 k1 s1 t1 r1 => ⟨by cases r1; exact ⟨_, rfl⟩, h2 σ H1 Hc1 k1 (r.mono s1) _ fun u H2 Hc2 k2 s2 t2 r2 => by
    cases r1
    obtain ⟨a, xs, rfl, hs, ra⟩ := r2.qq hq
    have e := rp_strs ra
    have e2 : xs = (ls.map S).map V.str := by rw [e, List.map_map]; rfl
    have e3 : ((ls.map S).map (·.length)) = ls.map (·.length) := by rw [List.map_map]; exact List.map_congr_left fun l _ => S_len l
    refine ⟨S s, a, ls.map S, rfl, rfl, by rw [← e2]; exact hs, by rw [e3, List.length_map, S_len]; exact hz, ?_⟩
    rw [TL.join_eq, join_S]
    exact q' _ H2 Hc2 k2 (s1.trans s2) (t1.trans t2) (.str _)⟩
/-! ### isinstance -/
def tyD : D → String
  | .non => "NoneType" | .bl _ => "bool" | .int _ => "int" | .str _ => "str" | .tup _ => "tuple" | .lst _ => "list" | .ro _ => "list" | .raw _ => ""
theorem Rp.ty {K : Fg} {H : Hp} {v : V} {d : D} (r : Rp K H v d) (h : ∀ w, d ≠ .raw w) : TyX K H v (.type (tyD d)) := by
  cases r with
  | non => exact .base .non
  | bl b => exact .base (.bl b)
  | int i => exact .base (.int i)
  | str l => exact .base (.str _)
  | tup s a =>
    rcases s with (s | ⟨o, s⟩) | ⟨o, its, n, s, hc, _⟩
    · exact .base (.tup s)
    · exact .fTuple s
    · exact .kTuple s hc
  | lst s a => exact .base (.lst s)
  | ro s a =>
    rcases s with (s | ⟨o, s⟩) | ⟨o, its, n, s, hc, _⟩
    · exact .base (.lst s)
    · exact .base (.frz s)
    · exact .kList s hc
  | raw v => exact absurd rfl (h v)
def uIsi (K : Fg) : List V → Hp → VK → Prop := fun xs H Q => rIsi K xs H Q ∨ rIsiT K xs H Q
theorem call_uIsi {X : Cx} : CallR X (.builtin "isinstance") (uIsi X.K) := call_isi.or call_isiT
theorem ev_isi {n : String} {b : Bool} (h : EvH c te E O d) (hd : ∀ w, d ≠ .raw w) (e : L2.kitB (tyD d) n = some b) : Ev c (tCB (uIsi c.K) (tCons te (tCons (tC (.ty n)) tNil))) E O (.bl b) := fun σ H Hc k r Q q' =>
  h σ H Hc k r _ fun v H1 Hc1 k1 s1 t1 r1 => .inl ⟨v, .ty n, _, .type n, b, rfl, .ty n, r1.ty hd, kit_ty e, q' _ H1 Hc1 k1 s1 t1 (.bl b)⟩
end
/-! ### deep equality -/
mutual
def toP : D → PyData
  | .non => .none
  | .bl b => .bool b
  | .int i => .int i
  | .str l => .str (S l)
  | .tup ds => .tuple (toPs ds)
  | .lst ds => .list (toPs ds)
  | .ro ds => .list (toPs ds)
  | .raw _ => .none
def toPs : List D → List PyData
  | [] => []
  | d :: ds => toP d :: toPs ds
end
mutual
/-- plain data, at most n deep, of texts that are not too long -/
def shp : Nat → D → Prop
  | _, .non => True
  | _, .bl _ => True
  | _, .int _ => True
  | _, .str l => ∀ a ∈ l, a < 1114112
  | 0, .tup _ => False
  | n + 1, .tup ds => shps n ds
  | 0, .lst _ => False
  | n + 1, .lst ds => shps n ds
  | 0, .ro _ => False
  | n + 1, .ro ds => shps n ds
  | _, .raw _ => False
def shps : Nat → List D → Prop
  | _, [] => True
  | n, d :: ds => shp n d ∧ shps n ds
end
theorem shps_all {n : Nat} : ∀ {ds : List D}, (∀ d ∈ ds, shp n d) → shps n ds
  | [], _ => by unfold shps; trivial
  | d :: ds, h => by
    unfold shps
    exact ⟨h d (by simp), shps_all fun e he => h e (by simp [he])⟩
mutual
theorem shp_can : ∀ {n : Nat} {d : D}, shp n d → (toP d).canLay0 = true ∧ (toP d).depth ≤ n
  | n, .non, h => ⟨by simp [toP, PyData.canLay0], by simp [toP, PyData.depth]⟩
  | n, .bl _, h => ⟨by simp [toP, PyData.canLay0], by simp [toP, PyData.depth]⟩
  | n, .int _, h => ⟨by simp [toP, PyData.canLay0], by simp [toP, PyData.depth]⟩
  | n, .str l, h => by
    have h' : ∀ a ∈ l, a < 1114112 := by cases n <;> simpa [shp] using h
    refine ⟨?_, by simp [toP, PyData.depth]⟩
    simp only [toP, PyData.canLay0]
    show (S l).cps.all (· < 0x110000) = true
    simpa [S] using h'
  | 0, .tup ds, h => by simp [shp] at h
  | n + 1, .tup ds, h => by
    have h' : shps n ds := by simpa [shp] using h
    obtain ⟨a, b⟩ := shps_can h'
    exact ⟨by simpa [toP, PyData.canLay0] using a, by simp only [toP, PyData.depth]; omega⟩
  | 0, .lst ds, h => by simp [shp] at h
  | n + 1, .lst ds, h => by
    have h' : shps n ds := by simpa [shp] using h
    obtain ⟨a, b⟩ := shps_can h'
    exact ⟨by simpa [toP, PyData.canLay0] using a, by simp only [toP, PyData.depth]; omega⟩
  | 0, .ro ds, h => by simp [shp] at h
  | n + 1, .ro ds, h => by
    have h' : shps n ds := by simpa [shp] using h
    obtain ⟨a, b⟩ := shps_can h'
    exact ⟨by simpa [toP, PyData.canLay0] using a, by simp only [toP, PyData.depth]; omega⟩
  | n, .raw _, h => by cases n <;> simp [shp] at h
theorem shps_can : ∀ {n : Nat} {ds : List D}, shps n ds → PyData.canLayAll0 (toPs ds) = true ∧ PyData.depthAll (toPs ds) ≤ n
  | n, [], h => ⟨by simp [toPs, PyData.canLayAll0], by simp [toPs, PyData.depthAll]⟩
  | n, d :: ds, h => by
    have h' : shp n d ∧ shps n ds := by simpa [shps] using h
    obtain ⟨a, b⟩ := shp_can h'.1
    obtain ⟨a2, b2⟩ := shps_can h'.2
    exact ⟨by simp [toPs, PyData.canLayAll0, a, a2], by simp only [toPs, PyData.depthAll]; omega⟩
end
theorem shaped_of {n : Nat} {d : D} (h : shp n d) (hn : n ≤ 64) : SeqAt.shaped (toP d) = true := by
  obtain ⟨a, b⟩ := shp_can h
  unfold SeqAt.shaped
  rw [a]
  simp
  omega
mutual
theorem Rp.dp {K : Fg} {H : Hp} : ∀ {n : Nat} {v : V} {d : D}, shp n d → Rp K H v d → Dp K H v (toP d)
  | _, _, .non, _, .non => by simp only [toP]; exact .non
  | _, _, .bl b, _, .bl _ => by simp only [toP]; exact .bl b
  | _, _, .int i, _, .int _ => by simp only [toP]; exact .int i
  | _, _, .str l, _, .str _ => by simp only [toP]; exact .str _
  | 0, _, .tup ds, h, _ => by simp [shp] at h
  | n + 1, _, .tup ds, h, .tup s a => by
    simp only [toP]
    exact .tup s (RpAll.dp (n := n) (by simpa [shp] using h) a)
  | 0, _, .lst ds, h, _ => by simp [shp] at h
  | n + 1, _, .lst ds, h, .lst s a => by
    simp only [toP]
    exact .lst (SqL.of s) (RpAll.dp (n := n) (by simpa [shp] using h) a)
  | 0, _, .ro ds, h, _ => by simp [shp] at h
  | n + 1, _, .ro ds, h, .ro s a => by
    simp only [toP]
    exact .lst s (RpAll.dp (n := n) (by simpa [shp] using h) a)
  | n, _, .raw _, h, _ => by cases n <;> simp [shp] at h
theorem RpAll.dp {K : Fg} {H : Hp} : ∀ {n : Nat} {vs : List V} {ds : List D}, shps n ds → RpAll K H vs ds → DpAll K H vs (toPs ds)
  | _, _, [], _, .nil => by simp only [toPs]; exact .nil
  | n, _, d :: ds, h, .cons r t => by
    simp only [toPs]
    have h' : shp n d ∧ shps n ds := by simpa [shps] using h
    exact .cons (Rp.dp h'.1 r) (RpAll.dp h'.2 t)
end
/-- == on data -/
def deq (d e : D) : Bool := PyData.eqv (toP d) (toP e)
def deqs (ds es : List D) : Bool := PyData.eqvAll (toPs ds) (toPs es)
theorem od_eq {K : Fg} {n m : Nat} {d e : D} (h1 : shp n d) (h2 : shp m e) (hn : n ≤ 64) (hm : m ≤ 64) : OpD K (uEq K) d e (.bl (deq d e)) := fun x y H Q rx ry q =>
  ⟨toP d, toP e, rx.dp h1, ry.dp h2, shaped_of h1 hn, shaped_of h2 hm, q _ fun _ => .bl _⟩
theorem od_ne {K : Fg} {n m : Nat} {d e : D} (h1 : shp n d) (h2 : shp m e) (hn : n ≤ 64) (hm : m ≤ 64) : OpD K (uNe K) d e (.bl (!deq d e)) := fun x y H Q rx ry q =>
  ⟨toP d, toP e, rx.dp h1, ry.dp h2, shaped_of h1 hn, shaped_of h2 hm, q _ fun _ => .bl _⟩
theorem deq_int (i j : Int) : deq (.int i) (.int j) = decide (i = j) := by
  simp only [deq, toP, PyData.eqv]
  exact Bool.beq_eq_decide_eq _ _
theorem deq_bl (i j : Bool) : deq (.bl i) (.bl j) = decide (i = j) := by
  simp only [deq, toP, PyData.eqv]
  exact Bool.beq_eq_decide_eq _ _
theorem deq_str (l m : List Nat) : deq (.str l) (.str m) = decide (l = m) := by
  simp only [deq, toP, PyData.eqv]
  rw [Bool.beq_eq_decide_eq]
  by_cases h : l = m
  · rw [h]; simp
  · rw [decide_eq_false h, decide_eq_false fun z => h (S_inj z)]
theorem deq_tup (ds es : List D) : deq (.tup ds) (.tup es) = deqs ds es := by simp only [deq, deqs, toP, PyData.eqv]
theorem deq_lst (ds es : List D) : deq (.lst ds) (.lst es) = deqs ds es := by simp only [deq, deqs, toP, PyData.eqv]
theorem deqs_nil : deqs [] [] = true := by simp only [deqs, toPs, PyData.eqvAll]
theorem deqs_cons (d e : D) (ds es : List D) : deqs (d :: ds) (e :: es) = (deq d e && deqs ds es) := by simp only [deq, deqs, toPs, PyData.eqvAll]
theorem deqs_nc (e : D) (es : List D) : deqs [] (e :: es) = false := by simp only [deqs, toPs, PyData.eqvAll]
theorem deqs_cn (d : D) (ds : List D) : deqs (d :: ds) [] = false := by simp only [deqs, toPs, PyData.eqvAll]
/-- lists of one kind of things -/
theorem deqs_map {α : Type} [DecidableEq α] {f : α → D} (hf : ∀ a b, deq (f a) (f b) = decide (a = b)) : ∀ xs ys : List α, deqs (xs.map f) (ys.map f) = decide (xs = ys)
  | [], [] => by rw [List.map_nil, deqs_nil]; simp
  | [], y :: ys => by rw [List.map_nil, List.map_cons, deqs_nc]; simp
  | x :: xs, [] => by rw [List.map_nil, List.map_cons, deqs_cn]; simp
  | x :: xs, y :: ys => by
    rw [List.map_cons, List.map_cons, deqs_cons, hf, deqs_map hf xs ys]
    simp
/-! ### what is walked -/
def iSq (K : Fg) (tl : TE) : TI := fun σ H R => tl σ H fun x H1 => (∃ a, x = .ref a ∧ (∃ xs, SqL K H1 a xs) ∧ R (Itl K a) H1) ∨ ((∃ a, x = .ref a ∧ (∃ xs, SqT K H1 a xs) ∧ R (Itt K a) H1) ∨ (∃ z, x = .str z ∧ R (Its z) H1))
section
variable {X : Cx} {tg : Expr}
/-- an iterator over a value that is there -/
def IterV (X : Cx) (tg : Expr) (r : V → Hp → (It → Hp → Prop) → Prop) : Prop := ∀ (pins : List (Addr × Obj)) (σ : L2.St) (H : Hp) (s : Shared) (x : V) (v : Value) (R : It → Hp → Prop), Inv X pins σ H s → RelV x v → r x H R →
  wpAny (model X.prog X.w) X.A (pyIter v) (PIE X pins σ tg R) X.xe s
theorem pi_ofV {r : V → Hp → (It → Hp → Prop) → Prop} {l : Expr} {tl : TE} (h : IterV X tg r) (hl : PE X l tl) : PI X tg l (fun σ H R => tl σ H fun x H1 => r x H1 R) :=
  ⟨fun pins s σ H R I hw => L2.thn (hl.run pins s σ H _ I hw) fun v s1 ⟨x, H1, I1, r1, q1⟩ => h pins σ H1 s1 x v R I1 r1 q1⟩
theorem IterV.or {r r' : V → Hp → (It → Hp → Prop) → Prop} (h : IterV X tg r) (h' : IterV X tg r') : IterV X tg (fun x H R => r x H R ∨ r' x H R) := fun pins σ H s x v R I rv q => q.elim (h pins σ H s x v R I rv) (h' pins σ H s x v R I rv)
end
section
variable {X : Cx} {tg : Expr}
theorem it_lst : IterV X tg (fun x H R => ∃ a, x = .ref a ∧ (∃ xs, SqL X.K H a xs) ∧ R (Itl X.K a) H) := fun pins σ H s x v R I rv ⟨a, e, ⟨xs, hq⟩, q⟩ => by
  subst e
  cases rv
  obtain ⟨us, _, pl, _⟩ := I.list hq
  exact wpAny_pyIter_list pl.isList (pi_one (tk := s.toks) I _ (turn_list a _) ⟨_, Heap.get?_push_size _ rfl, rfl, rfl⟩ q)
theorem it_tup : IterV X tg (fun x H R => ∃ a, x = .ref a ∧ (∃ xs, SqT X.K H a xs) ∧ R (Itt X.K a) H) := fun pins σ H s x v R I rv ⟨a, e, ⟨xs, hq⟩, q⟩ => by
  subst e
  cases rv
  obtain ⟨us, _, pt, _⟩ := I.tuple hq
  have pt' : s.heap.IsTuple a us.toArray := pt
  exact wpAny_pyIter_tuple pt' (pi_one (tk := s.toks) I _ (turn_tuple a _) ⟨_, Heap.get?_push_size _ rfl, rfl, rfl⟩ q)
theorem it_str : IterV X tg (fun x H R => ∃ z, x = .str z ∧ R (Its z) H) := fun pins σ H s x v R I rv ⟨z, e, q⟩ => by
  subst e
  obtain ⟨u, e2⟩ := rv
  subst e2
  by_cases ha : z.cps.all (· < 128) = true
  · exact wpAny_pyIter_ascii ha (pi_one (tk := s.toks) I _ (turn_str _ z u _ (Or.inl rfl)) ⟨_, Heap.get?_push_size _ rfl, rfl, rfl⟩ q)
  · have hb : z.cps.all (· < 128) = false := by simpa using ha
    exact wpAny_pyIter_wide hb (pi_one (tk := s.toks) I _ (turn_str _ z u _ (Or.inr rfl)) ⟨_, Heap.get?_push_size _ rfl, rfl, rfl⟩ q)
theorem pi_sq {l : Expr} {tl : TE} (hl : PE X l tl) : PI X tg l (iSq X.K tl) := pi_ofV (it_lst.or (it_tup.or it_str)) hl
end
section
variable {c : Cn} {E E' : List (Option D)} {O O' : List Rsc} {te ta tb tl : TE} {d d1 d2 : D} {ds es : List D} {P P' : L2.St → Hp → Prop} {dn : Ends} {ts tu tz : TS}
theorem wk_lst {q : D} (h : Ev c tl E O q) (hq : IsL q ds) : WkD c (iSq c.K tl) E O ds.length (fun i d => ds[i]? = some d) := ⟨fun σ H Hc k r R q' =>
  h σ H Hc k r _ fun v H1 Hc1 k1 s1 t1 r1 => by
    obtain ⟨a, xs, rfl, hs, ra⟩ := r1.lq hq
    refine .inl ⟨a, rfl, ⟨xs, k1.sub.seq hs⟩, q' _ H1 Hc1 [rGh (.ref a) q] (k1.ghost r1) s1 t1 fun i H2 Hc2 O2 Y k2 hi => ?_⟩
    obtain ⟨b, ys, e, hy, ry⟩ := (Ok.gh (X := Y) (by simpa using k2)).lq hq
    cases e
    have hy2 := k2.sub.seq hy
    refine ⟨fun hlt => ⟨?_, fun x H3 yl => ?_⟩, fun e => ⟨ys, hy2, by rw [ry.length, e]; exact Nat.le_refl _⟩⟩
    · obtain ⟨w, hw, _⟩ := ry.get (List.getElem?_eq_getElem hlt)
      exact ⟨ys, w, hy2, hw⟩
    · obtain ⟨e1, e2⟩ := yl
      subst e1
      obtain ⟨dd, hd, rd⟩ := ry.getV (e2 ys hy2)
      exact ⟨Hc2, dd, k2, Same.refl _, Same.refl _, hd, rd⟩⟩
theorem wk_tup (h : Ev c tl E O (.tup ds)) : WkD c (iSq c.K tl) E O ds.length (fun i d => ds[i]? = some d) := ⟨fun σ H Hc k r R q' =>
  h σ H Hc k r _ fun v H1 Hc1 k1 s1 t1 r1 => by
    have r1' := r1
    cases r1 with
    | tup hs ra =>
    rename_i a xs
    refine .inr (.inl ⟨a, rfl, ⟨xs, sqT_mono k1.sub hs⟩, q' _ H1 Hc1 [rGh (.ref a) (.tup ds)] (k1.ghost r1') s1 t1 fun i H2 Hc2 O2 Y k2 hi => ?_⟩)
    have g := Ok.gh (c := c) (O := O2) (X := Y) (v := .ref a) (d := .tup ds) (by simpa using k2)
    cases g with
    | tup hy ry =>
    rename_i ys
    have hy2 := sqT_mono k2.sub hy
    refine ⟨fun hlt => ⟨?_, fun x H3 yl => ?_⟩, fun e => ⟨ys, hy2, by rw [ry.length, e]; exact Nat.le_refl _⟩⟩
    · obtain ⟨w, hw, _⟩ := ry.get (List.getElem?_eq_getElem hlt)
      exact ⟨ys, w, hy2, hw⟩
    · obtain ⟨e1, e2⟩ := yl
      subst e1
      obtain ⟨dd, hd, rd⟩ := ry.getV (e2 ys hy2)
      exact ⟨Hc2, dd, k2, Same.refl _, Same.refl _, hd, rd⟩⟩
theorem wk_sq {q : D} (h : Ev c tl E O q) (hq : IsQ q ds) : WkD c (iSq c.K tl) E O ds.length (fun i d => ds[i]? = some d) := by
  cases hq with
  | lst => exact wk_lst h (.lst _)
  | ro => exact wk_lst h (.ro _)
  | tup => exact wk_tup h
theorem wk_str {l : List Nat} (h : EvH c tl E O (.str l)) : WkD c (iSq c.K tl) E O l.length (fun i d => ∃ a, l[i]? = some a ∧ d = .str [a]) := ⟨fun σ H Hc k r R q' =>
  h σ H Hc k r _ fun v H1 Hc1 k1 s1 t1 r1 => by
    cases r1
    refine .inr (.inr ⟨S l, rfl, q' _ H1 Hc1 [] (by simpa using k1) s1 t1 fun i H2 Hc2 O2 Y k2 hi => ?_⟩)
    refine ⟨fun hlt => ⟨by show i < (S l).cps.size; simpa [S] using hlt, fun x H3 yl => ?_⟩, fun e => by show (S l).cps.size ≤ i; simp [S, e]⟩
    obtain ⟨e1, a, ha, hx⟩ := yl
    subst e1 hx
    exact ⟨Hc2, .str [a], k2, Same.refl _, Same.refl _, ⟨a, by simpa [S] using ha, rfl⟩, .str [a]⟩⟩
theorem wk_rng1 {n : Int} (h : Ev c te E O (.int n)) (hn : -(2 ^ 62) ≤ n ∧ n < 2 ^ 62) : WkD c (iRng1 (tCons te tNil)) E O n.toNat (fun i d => d = .int (i : Int)) := ⟨fun σ H Hc k r R q' =>
  h σ H Hc k r _ fun v H1 Hc1 k1 s1 t1 r1 => by
    cases r1
    refine ⟨n, rfl, hn.1, hn.2, q' _ H1 Hc1 [] (by simpa using k1) s1 t1 fun i H2 Hc2 O2 Y k2 hi => ⟨fun hlt => ⟨hlt, fun x H3 yl => ?_⟩, fun e => by show n.toNat ≤ i; omega⟩⟩
    obtain ⟨e1, hx⟩ := yl
    subst e1 hx
    exact ⟨Hc2, .int (i : Int), k2, Same.refl _, Same.refl _, rfl, by rw [Int.zero_add]; exact .int _⟩⟩
theorem wk_rng2 {m n : Int} (h1 : Ev c ta E O (.int m)) (h2 : Ev c tb E O (.int n)) (hn : -(2 ^ 62) ≤ m ∧ m < 2 ^ 62 ∧ -(2 ^ 62) ≤ n ∧ n < 2 ^ 62) : WkD c (iRng2 (tCons ta (tCons tb tNil))) E O (n - m).toNat (fun i d => d = .int (m + (i : Int))) := ⟨fun σ H Hc k r R q' =>
  h1 σ H Hc k r _ fun v H1 Hc1 k1 s1 t1 r1 => h2 σ H1 Hc1 k1 (r.mono s1) _ fun w H2 Hc2 k2 s2 t2 r2 => by
    cases r1; cases r2
    refine ⟨m, n, rfl, hn, q' _ H2 Hc2 [] (by simpa using k2) (s1.trans s2) (t1.trans t2) fun i H3 Hc3 O2 Y k3 hi => ⟨fun hlt => ⟨hlt, fun x H4 yl => ?_⟩, fun e => by show (n - m).toNat ≤ i; omega⟩⟩
    obtain ⟨e1, hx⟩ := yl
    subst e1 hx
    exact ⟨Hc3, .int (m + (i : Int)), k3, Same.refl _, Same.refl _, rfl, .int _⟩⟩
/-- enumerate(a list) -/
theorem wk_enum {q : D} (h : Ev c te E O q) (hq : IsL q ds) : WkD c (iEnum c.K (tCons te tNil)) E O ds.length (fun i d => ∃ x, ds[i]? = some x ∧ d = .tup [.int (i : Int), x]) := ⟨fun σ H Hc k r R q' =>
  h σ H Hc k r _ fun v H1 Hc1 k1 s1 t1 r1 => by
    obtain ⟨a, xs, rfl, hs, ra⟩ := r1.lq hq
    refine ⟨a, xs, rfl, k1.sub.seq hs, q' _ H1 Hc1 [rGh (.ref a) q] (k1.ghost r1) s1 t1 fun i H2 Hc2 O2 Y k2 hi => ?_⟩
    obtain ⟨b, ys, e, hy, ry⟩ := (Ok.gh (X := Y) (by simpa using k2)).lq hq
    cases e
    have hy2 := k2.sub.seq hy
    refine ⟨fun hlt => ⟨?_, fun x H3 yl => ?_⟩, fun e => ⟨ys, hy2, by rw [ry.length, e]; exact Nat.le_refl _⟩⟩
    · obtain ⟨w, hw, _⟩ := ry.get (List.getElem?_eq_getElem hlt)
      exact ⟨ys, w, hy2, hw⟩
    · obtain ⟨T, w, e1, hT, e2, e3⟩ := yl
      subst e1 e2
      obtain ⟨dd, hd, rd⟩ := ry.getV (e3 ys hy2)
      have hc := k2.sub.free hT
      have n1 : Same Hc2 (upd Hc2 T (.tup [.int (i : Nat), w])) := fun a u e => by rw [upd_ne (ne_of_none e hc)]; exact e
      have n2 : Same H2 (upd H2 T (.tup [.int (i : Nat), w])) := fun a u e => by rw [upd_ne (ne_of_none e hT)]; exact e
      exact ⟨_, _, k2.laid hT, n1, n2, ⟨dd, hd, rfl⟩, .tup (SqT.of upd_same) (.cons (.int _) (.cons (rd.mono n1) .nil))⟩⟩
end
/-! ### comprehensions -/
theorem wipe_get (σ : L2.St) (vs : List Nat) (k : Nat) : (wipe σ vs)[k]? = if k ∈ vs then (σ[k]?).map fun _ => none else σ[k]? := by
  induction vs with
  | nil => simp [wipe]
  | cons i vs ih =>
    show ((wipe σ vs).set i none)[k]? = _
    by_cases h : k = i
    · subst h
      by_cases hl : k < (wipe σ vs).length
      · rw [List.getElem?_set_self hl]
        have hl2 : k < σ.length := by rw [wipe_length] at hl; exact hl
        simp [hl2]
      · have hl2 : ¬ k < σ.length := by rw [wipe_length] at hl; exact hl
        rw [List.getElem?_eq_none (by rw [List.length_set]; omega)]
        simp [hl2]
    · rw [List.getElem?_set_ne (Ne.symm h), ih]
      simp [h]
theorem wipe_set {σ : L2.St} {vs : List Nat} {j : Nat} {x : Option V} (h : j ∈ vs) : wipe (σ.set j x) vs = wipe σ vs := by
  apply List.ext_getElem?
  intro k
  rw [wipe_get, wipe_get]
  by_cases hk : k = j
  · subst hk
    rw [if_pos h, if_pos h]
    by_cases hl : k < σ.length
    · rw [List.getElem?_set_self hl]; simp [hl]
    · rw [List.getElem?_eq_none (by rw [List.length_set]; omega), List.getElem?_eq_none (by omega)]
  · rw [List.getElem?_set_ne (Ne.symm hk)]
theorem wipe_wipe (σ : L2.St) (vs : List Nat) : wipe (wipe σ vs) vs = wipe σ vs := by
  apply List.ext_getElem?
  intro k
  rw [wipe_get, wipe_get]
  by_cases h : k ∈ vs
  · rw [if_pos h, if_pos h]
    cases σ[k]? <;> rfl
  · rw [if_neg h, if_neg h]
section
variable {c : Cn} {E E' : List (Option D)} {O O' : List Rsc} {te ta tb tl : TE} {d d1 d2 : D} {ds es : List D} {P P' : L2.St → Hp → Prop} {dn : Ends} {ts tu tz : TS}
/-- a target of a comprehension: its names are the comprehension's own -/
def Gtw (c : Cn) (vs : List Nat) (g : TG) (x : D) (E E' : List (Option D)) : Prop := ∀ (σ : L2.St) (H Hc : Hp) (v : V) (Q : L2.St → Hp → Prop), Same Hc H → EnvR c.K Hc σ E → Rp c.K Hc v x → (∀ σ', EnvR c.K Hc σ' E' → wipe σ' vs = wipe σ vs → Q σ' H) → g v σ H Q
def Gtsw (c : Cn) (vs : List Nat) (g : TGs) (xs : List D) (E E' : List (Option D)) : Prop := ∀ (σ : L2.St) (H Hc : Hp) (ws : List V) (Q : L2.St → Hp → Prop), Same Hc H → EnvR c.K Hc σ E → RpAll c.K Hc ws xs → (∀ σ', EnvR c.K Hc σ' E' → wipe σ' vs = wipe σ vs → Q σ' H) → g ws σ H Q
theorem gw_name {vs : List Nat} {i : Nat} {x : D} (h : i ∈ vs) : Gtw c vs (gName i) x E (E.set i (some x)) := fun σ H Hc v Q _ r rv q => q _ (r.set rv) (wipe_set h)
theorem gws_nil {vs : List Nat} : Gtsw c vs gNil [] E E := fun σ H Hc ws Q _ r rv q => by
  cases rv
  exact ⟨rfl, q σ r rfl⟩
theorem gws_cons {vs : List Nat} {g : TG} {gs : TGs} {x : D} {xs : List D} {E1 E2 : List (Option D)} (h : Gtw c vs g x E E1) (hs : Gtsw c vs gs xs E1 E2) : Gtsw c vs (gCons g gs) (x :: xs) E E2 := fun σ H Hc ws Q s r rv q => by
  cases rv with
  | cons r1 r2 => exact ⟨_, _, rfl, h σ H Hc _ _ s r r1 fun σ' r' w1 => hs σ' H Hc _ Q s r' r2 fun σ2 r2' w2 => q σ2 r2' (w2.trans w1)⟩
theorem gw_tup {vs : List Nat} {n : Nat} {gs : TGs} {xs : List D} {E1 : List (Option D)} (h : Gtsw c vs gs xs E E1) (hl : xs.length = n) : Gtw c vs (gTup c.K n gs) (.tup xs) E E1 := fun σ H Hc v Q s r rv q => by
  cases rv with
  | tup s1 a1 => exact ⟨_, _, rfl, sqT_mono s s1, by rw [a1.length]; exact hl, h σ H Hc _ Q s r a1 q⟩
theorem ef_lc {wi : TI} {g : TG} {tt : TT} {vs : List Nat} {n : Nat} {f : Nat → D → Prop} (w : WkD c wi E O n f) (Ew : List (Option D)) (hw : EnvLe E Ew) (hv : ∀ i ∈ vs, ∀ d, Ew[i]? ≠ some (some d)) (res : Nat → List D) (h0 : res 0 = []) (hn : n ≤ 100000)
    (hs : ∀ i x, i < n → f i x → ∃ E1, Gtw c vs g x Ew E1 ∧ ∃ b, (∀ X, EvT c tt E1 (O ++ X) b) ∧ (b = true → ∃ y, (∀ X, Ev c te E1 (O ++ X) y) ∧ res (i + 1) = res i ++ [y]) ∧ (b = false → res (i + 1) = res i)) :
    EvF c (tLc wi g tt te vs) E O (res n) := fun σ H Hc k r Q q => by
  refine w.run σ H Hc k r _ fun J H1 Hc1 X k1 s1 t1 st => ?_
  intro p hp
  have er : EnvR c.K Hc1 (wipe σ vs) Ew := by
    refine ⟨by rw [wipe_length]; exact r.1.trans hw.1, fun i d e => ?_⟩
    obtain ⟨v, h1, h2⟩ := (r.mono s1).2 i d (hw.2 i d e)
    refine ⟨v, ?_, h2⟩
    rw [wipe_get, if_neg fun hi => hv i hi d e, h1]
  have k2 : Ok c Hc1 (upd H1 p (.lst [])) ((O ++ X) ++ [rLst p []]) := k1.open hp .nil
  refine ⟨fun i m H2 => m + i = n ∧ (res i).length ≤ i ∧ ∃ Hc2, Ok c Hc2 H2 (O ++ (X ++ [rLst p (res i)])) ∧ Same Hc1 Hc2 ∧ Same H H2, ⟨n, rfl, by rw [h0]; simp, Hc1, by rw [h0]; simpa using k2, Same.refl _, ?_⟩, ?_⟩
  · exact fun a u e => by rw [upd_ne (ne_of_none (t1 a u e) hp)]; exact t1 a u e
  · rintro i m H2 ⟨hm, hl, Hc2, k3, s3, t3⟩
    have st2 := st i H2 Hc2 O [rLst p (res i)] k3 (by omega)
    have hnp : H p = none := t1.free hp
    by_cases hi : i < n
    · obtain ⟨go, yl⟩ := st2.1 hi
      refine .inr ⟨go, fun H' => (res (i + 1)).length ≤ i + 1 ∧ ∃ Hc2, Ok c Hc2 H' (O ++ (X ++ [rLst p (res (i + 1))])) ∧ Same Hc1 Hc2 ∧ Same H H', fun H' z => ⟨m - 1, by omega, by omega, z.1, z.2⟩, fun x H3 y => ?_⟩
      obtain ⟨Hc3, dd, k4, s4, t4, fd, rd⟩ := yl x H3 y
      obtain ⟨E1, hg, b, ht, hy, hno⟩ := hs i dd hi fd
      refine hg (wipe σ vs) H3 Hc3 x _ k4.sub ((er.mono s3).mono s4) rd fun σ2 r2 w2 => ⟨w2.trans (wipe_wipe σ vs), ?_⟩
      refine ht (X ++ [rLst p (res i)]) σ2 H3 Hc3 k4 r2 _ fun H4 Hc4 k5 s5 t5 => ?_
      cases b with
      | true =>
        obtain ⟨y, hy1, hy2⟩ := hy rfl
        rw [if_pos rfl]
        refine hy1 (X ++ [rLst p (res i)]) σ2 H4 Hc4 k5 (r2.mono s5) _ fun v H5 Hc5 k6 s6 t6 rv => ?_
        obtain ⟨ws, hv, rw', _, _, g, _⟩ := k6.pick (j := O.length + X.length) (p := p) (ds := res i) (by rw [← List.append_assoc, ← List.length_append]; simp)
        refine ⟨ws, hv, ?_, ?_, Hc5, ?_, ((s3.trans s4).trans s5).trans s6, fun a u e => ?_⟩
        · rw [rw'.length]
          exact Nat.lt_of_lt_of_le (show (res i).length < 16777216 by omega) (by decide)
        · rw [hy2, List.length_append]
          simp
          omega
        · have g2 := g _ _ (rw'.snoc rv)
          rw [hy2]
          have e : (O ++ (X ++ [rLst p (res i)])).set (O.length + X.length) (rLst p (res i ++ [y])) = O ++ (X ++ [rLst p (res i ++ [y])]) := by
            rw [List.set_append_right _ _ (by omega), Nat.add_sub_cancel_left, List.set_append_right _ _ (by omega)]
            simp
          rw [e] at g2
          exact g2
        · have q2 := t6 a u (t5 a u (t4 a u (t3 a u e)))
          rw [upd_ne (ne_of_none e hnp)]
          exact q2
      | false =>
        rw [if_neg Bool.false_ne_true]
        rw [hno rfl]
        exact ⟨by omega, Hc4, k5, (s3.trans s4).trans s5, ((t3.trans t4).trans t5)⟩
    · have e : i = n := by omega
      subst e
      exact .inl ⟨st2.2 rfl, q p H2 Hc2 k3.mid (s1.trans s3) t3⟩
end
open PyProof.Rows (envOfC)
/-! ### defs as the top has them -/
def FunAt (K : Fg) (mg : Str → Option Value) (x : Str) (st : Stmt) : Prop := ∃ (f : Addr) (fd : FuncData), mg x = some (.ref f) ∧ Fun K x x st f fd
structure DefOk (P : Program) (w : World) (K : Fg) (mg : Str → Option Value) (base : Heap) (CX : CXT) (x : Str) (ps : List Str) (k : Nat) (sp : Sp) : Prop where
  ex : ∃ (f : Addr) (fd : FuncData), mg x = some (.ref f) ∧ PySem.W.keepIn K (.ref f) = true ∧ Binds K fd ps [] ∧ FnOk P w K mg base CX k f fd ps sp
section
variable {P : Program} {w : World} {K : Fg} {mg : Str → Option Value} {base : Heap}
/-- every def of the text that keeps a promise: its body's derivation, its reading's run -/
theorem fn_def {x : Str} {st : Stmt} {N ps : List Str} {k : Nat} {sp : Sp} {f : Addr} {fd : FuncData} (F : Fun K x x st f fd) (S : FnScope N ps (defScope st)) (len : ∀ vs H Q E, sp vs H Q E → vs.length = ps.length) (t : TS)
    (hb : ∀ (cdv : Value) (A : Around) (outer : List Env) (s : Shared) (H : Hp) (E : XK) (f : Addr), Room k (A.deeper (envOfC x (defScope st) s.heap.objs.size f cdv)) → PSs (cxOf CX0 P w K mg base N x (defScope st) f cdv A outer s H E).nox (defBody st) t)
    (hr : ∀ vs H Q E, sp vs H Q E → t { nx := fun _ H' => Q .non H', rt := Q } (L2.start N vs) H) : FnOk P w K mg base CX0 (k + 1) f fd ps sp :=
  F.ok S len fun cdv A outer s H vs Q E hR h => ⟨t, hb cdv A outer s H E f hR, hr vs H Q E h⟩
theorem def_ok {x : Str} {st : Stmt} {N ps : List Str} {k : Nat} {sp : Sp} (F : FunAt K mg x st) (S : FnScope N ps (defScope st))
    (hbind : ∀ (kV doc pm : Value) (an : Option Addr) (cdv ct : Value) (us : List Value), us.length = ps.length → bindArgs (PySem.W.fnOf x x (defArgs st) (defBody st) (defScope st) .none kV doc pm an cdv ct) ⟨us, []⟩ = pure (ps.zip us))
    (len : ∀ vs H Q E, sp vs H Q E → vs.length = ps.length) (t : TS)
    (hb : ∀ (cdv : Value) (A : Around) (outer : List Env) (s : Shared) (H : Hp) (E : XK) (f : Addr), Room k (A.deeper (envOfC x (defScope st) s.heap.objs.size f cdv)) → PSs (cxOf CX0 P w K mg base N x (defScope st) f cdv A outer s H E).nox (defBody st) t)
    (hr : ∀ vs H Q E, sp vs H Q E → t { nx := fun _ H' => Q .non H', rt := Q } (L2.start N vs) H) : DefOk P w K mg base CX0 x ps (k + 1) sp := by
  obtain ⟨f, fd, hm, F⟩ := F
  exact ⟨f, fd, hm, F.kp, F.binds hbind, fn_def F S len t hb hr⟩
end
section
variable {X : Cx} {CX : CXT} {k : Nat} {ps : List Str} {sp : Sp} {E : XK} {x : Str} {p pos : Pos} {e : Expr} {es : List Expr} {t : TA}
theorem pe_callU (h : DefOk X.prog X.w X.K X.mg X.base CX x ps k sp) (hr : Room k X.A) (hx : Passes CX X E) (ha : PA X (e :: es) t) (hg : Gl X x := by rfl) (hdb : (x == ("__debug__" : Str)) = false := by decide)
    (he : starEach (e :: es) X.env = (false, eval e X.env) :: starEach es X.env := by rfl) (hpl : (backTo pos (starEach es X.env)).any (·.1) = false := by rfl) : PE X (.Call (.Name x p) (e :: es) [] pos) (tCall sp [] E t) := by
  obtain ⟨f, fd, hm, hk, hb, F⟩ := h.ex
  exact pe_call F hr hg hm hk hb .nil hx ha hdb he hpl
theorem pe_strL {X : Cx} {y : Str} {l : List Nat} {j : Nat} {pos : Pos} (h : y = S l) : PE X (.Constant (.str y) j pos) (tC (.str (S l))) := by
  subst h
  exact pe_str
theorem pe_globE {X : Cx} {y : Str} {v : V} {pos : Pos} (h : ∃ u, X.mg y = some u ∧ RelV v u) (hg : Gl X y := by rfl) (hd : (y == ("__debug__" : Str)) = false := by decide) : PE X (.Name y pos) (tC v) := by
  obtain ⟨u, hm, r⟩ := h
  exact pe_glob hg hm r hd
end
section
variable {c : Cn} {E E' : List (Option D)} {O O' : List Rsc} {te ta tb tl : TE} {d d1 d2 : D} {ds es : List D} {dn : Ends} {tz : TS}
theorem ev_strS {l : List Nat} : Ev c (tC (.str (S l))) E O (.str l) := fun σ H Hc k r Q q => q _ H Hc k (Same.refl _) (Same.refl _) (.str l)
/-- an if without else -/
theorem q_when {t : TT} {ts : TS} {b : Bool} (h : EvT c t E O b) (h1 : b = true → Sy c E O (ts { dn with nx := tz dn })) (h2 : b = false → Sy c E O (tz dn)) : Sy c E O (tSeq (tIfS t ts tNext) tz dn) := q_if h h1 h2
theorem et_yes : EvT c tYes E O true := fun σ H Hc k r Q q => q H Hc k (Same.refl _) (Same.refl _)
theorem ev_all {bs : List Bool} (h : EvF c te E O (bs.map D.bl)) : Ev c (tCB (rAll c.K) (tCons te tNil)) E O (.bl (bs.all id)) := fun σ H Hc k r Q q => h σ H Hc k r _ fun p H1 Hc1 k1 s1 t1 => by
  obtain ⟨vs, hv, rv, _⟩ := k1.fresh
  have e := rp_blsV rv
  subst e
  exact ⟨p, bs, rfl, SqL.of hv, q _ H1 Hc1 k1.pre s1 t1 (.bl _)⟩
theorem ev_any {bs : List Bool} (h : EvF c te E O (bs.map D.bl)) : Ev c (tCB (rAny c.K) (tCons te tNil)) E O (.bl (bs.any id)) := fun σ H Hc k r Q q => h σ H Hc k r _ fun p H1 Hc1 k1 s1 t1 => by
  obtain ⟨vs, hv, rv, _⟩ := k1.fresh
  have e := rp_blsV rv
  subst e
  exact ⟨p, bs, rfl, SqL.of hv, q _ H1 Hc1 k1.pre s1 t1 (.bl _)⟩
theorem ev_sum {ns : List Int} (h : EvF c te E O (ns.map D.int)) : Ev c (tCB (rSum c.K) (tCons te tNil)) E O (.int ns.sum) := fun σ H Hc k r Q q => h σ H Hc k r _ fun p H1 Hc1 k1 s1 t1 => by
  obtain ⟨vs, hv, rv, _⟩ := k1.fresh
  have e := rp_intsV rv
  subst e
  exact ⟨p, ns, rfl, SqL.of hv, q _ H1 Hc1 k1.pre s1 t1 (.int _)⟩
theorem ev_chain {r r' : R2} {tc : TE} {d3 : D} {b1 b2 : Bool} (ha : Ev c ta E O d1) (hb : Ev c tb E O d2) (hr : OpD c.K r d1 d2 (.bl b1)) (hc : b1 = true → Ev c tc E O d3) (hr' : b1 = true → OpD c.K r' d2 d3 (.bl b2)) : Ev c (tChain r r' ta tb tc) E O (.bl (b1 && b2)) := fun σ H Hc k rr Q q =>
  ha σ H Hc k rr _ fun x H1 Hc1 k1 s1 t1 r1 => hb σ H1 Hc1 k1 (rr.mono s1) _ fun y H2 Hc2 k2 s2 t2 r2 =>
    hr x y H2 _ ((r1.mono s2).mono k2.sub) (r2.mono k2.sub) fun v rv => by
      have rv := rv Hc2
      cases rv
      refine ⟨b1, rfl, ?_⟩
      cases b1 with
      | true =>
        rw [if_pos rfl]
        refine hc rfl σ H2 Hc2 k2 ((rr.mono s1).mono s2) _ fun z H3 Hc3 k3 s3 t3 r3 => hr' rfl y z H3 Q ((r2.mono s3).mono k3.sub) (r3.mono k3.sub) fun v rv => q v H3 Hc3 k3 ((s1.trans s2).trans s3) ((t1.trans t2).trans t3) ?_
        exact rv Hc3
      | false =>
        rw [if_neg Bool.false_ne_true]
        exact q _ H2 Hc2 k2 (s1.trans s2) (t1.trans t2) (.bl false)
end
/-! ### a law -/
def RLaw : List D → D → Prop := fun ds d => ∃ ns : List Int, ds = [.ro (ns.map D.int)] ∧ ns.length ≤ 63 ∧ d = .bl true
theorem law_sp {K : Fg} {H : Hp} {a : Addr} {ns : List Int} (hl : ns.length ≤ 63) (h : SqL K H a (ns.map V.int)) : spD K RLaw [.ref a] H (fun v _ => v = .bl true) fun _ _ _ => False :=
  ⟨H, [.ro (ns.map D.int)], .bl true, Same.refl _, .cons (.ro h (rp_ints ns)) .nil, ⟨ns, rfl, hl, rfl⟩, fun v H' Hc' _ r => by cases r; rfl⟩
theorem law_walk {l : PySem.W.OpenLaw} {k : Nat} {q : Program} {loose : List Str} {XP : (Str → Option Value) → Heap → Prop} {YP : World → Heap → Prop} {d : DefRec} {K : Params → Fg} {x : Str} (hn : l.most = some 63) (hdf : d.params.defaults = []) (hr : Room k callerA)
    (hY : ∀ (w : World) (h : Heap), YP w h → (K w.params).In h)
    (F : ∀ (w : World) (mg : Str → Option Value) (fa : Addr) (h : Heap), (K w.params).In h → h.Ns mainGlobals mg → mg d.name = some (.ref fa) →
      ∃ fd : FuncData, (∀ (s : Shared) (u : Value), BindsTo s fd ⟨[u], []⟩ [(x, u)]) ∧ ∀ base : Heap, (K w.params).In base → base.Ns mainGlobals mg → FnOk l.prog w (K w.params) mg base CX0 k fa fd [x] (spD (K w.params) RLaw)) :
    PySem.W.WalkO q loose XP YP l.row.toRowW d [] (fun f vs => PySem.call f vs) :=
  L2.walk_of (n := 63) (k := k) (x := x) (CX := fun _ => CX0) (sp := fun w => spD (K w.params) RLaw) hn (by decide) hdf hr hY F (fun w H a ns hl _ h => law_sp hl h) fun _ _ _ _ _ z => z
theorem atI_map {α β : Type} {f : α → β} {l : List α} {k : Nat} {a : α} (h : l[k]? = some a) : L2.atI (l.map f) (k : Int) = some (f a) := L2.atI_nat (by rw [List.getElem?_map, h]; rfl)
theorem atI_map0 {α β : Type} {f : α → β} {l : List α} {a : α} (h : l[0]? = some a) : L2.atI (l.map f) 0 = some (f a) := atI_map (k := 0) h
theorem atI_0 {α : Type} {l : List α} {a : α} (h : l[0]? = some a) : L2.atI l 0 = some a := L2.atI_nat (j := 0) h
theorem atI_1 {α : Type} {l : List α} {a : α} (h : l[1]? = some a) : L2.atI l 1 = some a := L2.atI_nat (j := 1) h
theorem atI_2 {α : Type} {l : List α} {a : α} (h : l[2]? = some a) : L2.atI l 2 = some a := L2.atI_nat (j := 2) h
theorem sz16 {n : Nat} (h : n ≤ 16777216) : n ≤ sizeLine := h
theorem sz16' {n : Nat} (h : n < 16777216) : n < sizeLine := h
theorem raw_ne_str {l : List Nat} : ∀ w, D.str l ≠ .raw w := fun _ h => by cases h
theorem raw_ne_int {i : Int} : ∀ w, D.int i ≠ .raw w := fun _ h => by cases h
theorem raw_ne_tup {l : List D} : ∀ w, D.tup l ≠ .raw w := fun _ h => by cases h
theorem raw_ne_lst {l : List D} : ∀ w, D.lst l ≠ .raw w := fun _ h => by cases h
theorem raw_ne_bl {b : Bool} : ∀ w, D.bl b ≠ .raw w := fun _ h => by cases h
theorem raw_ne_non : ∀ w, D.non ≠ .raw w := fun _ h => by cases h
abbrev uSplit : V → List V → Hp → VK → Prop := fun x xs H Q => ∃ a b, x = .str a ∧ xs = [.str b] ∧ (b.length == 0) = false ∧ a.length + 2 ≤ sizeLine ∧ rNewStrs (Txt.split a b) H Q
/-- s.split(sep), the parts told by a lemma -/
theorem ef_split {c : Cn} {E : List (Option D)} {O : List Rsc} {ta te : TE} {s t : List Nat} {ls : List (List Nat)} (h1 : EvH c ta E O (.str s)) (h2 : EvH c te E O (.str t)) (hn : t ≠ []) (hz : s.length + 2 ≤ sizeLine) (e : Txt.split (S s) (S t) = ls.map S) :
    EvF c (tM1 uSplit ta te) E O (ls.map D.str) := fun σ H Hc k r Q q => h1 σ H Hc k r _ fun v H1 Hc1 k1 s1 t1 r1 => ⟨by cases r1; exact ⟨_, rfl⟩, h2 σ H1 Hc1 k1 (r.mono s1) _ fun u H2 Hc2 k2 s2 t2 r2 => by
  cases r1; cases r2
  refine ⟨S s, S t, rfl, rfl, ?_, by rw [S_len]; exact hz, fun p hp => ?_⟩
  · rw [S_len]
    cases t with
    | nil => exact absurd rfl hn
    | cons a t => simp
  · rw [e]
    have n2 : Same H2 (upd H2 p (.lst ((ls.map S).map V.str))) := fun a u e => by rw [upd_ne (ne_of_none e hp)]; exact e
    have rp : ∀ ms : List (List Nat), RpAll c.K Hc2 ((ms.map S).map V.str) (ms.map D.str) := fun ms => by
      induction ms with
      | nil => exact .nil
      | cons m ms ih => exact .cons (.str m) ih
    exact q p _ Hc2 (k2.open hp (rp ls)) (s1.trans s2) ((t1.trans t2).trans n2)⟩
theorem atI_mapI {α β : Type} {f : α → β} {l : List α} {i : Int} : L2.atI (l.map f) i = (L2.atI l i).map f := by
  unfold L2.atI
  rw [List.length_map]
  cases ixN l.length i with
  | none => rfl
  | some j => simp
theorem atI_getD {α : Type} {l : List α} {i : Int} {d : α} (h0 : 0 ≤ i) (h1 : i < l.length) : L2.atI l i = some (l.getD i.toNat d) := by
  have e : i = (i.toNat : Int) := by omega
  have hj : i.toNat < l.length := by omega
  have q : L2.atI l ((i.toNat : Nat) : Int) = some (l.getD i.toNat d) := L2.atI_nat (by rw [List.getElem?_eq_getElem hj]; simp [hj])
  rw [← e] at q
  exact q
theorem kit_eq (a : String) : L2.kitB a a = some true := by
  unfold L2.kitB
  simp
theorem kit_NoneType_str : L2.kitB "NoneType" "str" = some false := by decide +kernel
theorem kit_NoneType_int : L2.kitB "NoneType" "int" = some false := by decide +kernel
theorem kit_NoneType_bool : L2.kitB "NoneType" "bool" = some false := by decide +kernel
theorem kit_NoneType_tuple : L2.kitB "NoneType" "tuple" = some false := by decide +kernel
theorem kit_NoneType_list : L2.kitB "NoneType" "list" = some false := by decide +kernel
theorem kit_bool_str : L2.kitB "bool" "str" = some false := by decide +kernel
theorem kit_bool_int : L2.kitB "bool" "int" = some true := by decide +kernel
theorem kit_bool_tuple : L2.kitB "bool" "tuple" = some false := by decide +kernel
theorem kit_bool_list : L2.kitB "bool" "list" = some false := by decide +kernel
theorem kit_int_str : L2.kitB "int" "str" = some false := by decide +kernel
theorem kit_int_bool : L2.kitB "int" "bool" = some false := by decide +kernel
theorem kit_int_tuple : L2.kitB "int" "tuple" = some false := by decide +kernel
theorem kit_int_list : L2.kitB "int" "list" = some false := by decide +kernel
theorem kit_str_int : L2.kitB "str" "int" = some false := by decide +kernel
theorem kit_str_bool : L2.kitB "str" "bool" = some false := by decide +kernel
theorem kit_str_tuple : L2.kitB "str" "tuple" = some false := by decide +kernel
theorem kit_str_list : L2.kitB "str" "list" = some false := by decide +kernel
theorem kit_tuple_str : L2.kitB "tuple" "str" = some false := by decide +kernel
theorem kit_tuple_int : L2.kitB "tuple" "int" = some false := by decide +kernel
theorem kit_tuple_bool : L2.kitB "tuple" "bool" = some false := by decide +kernel
theorem kit_tuple_list : L2.kitB "tuple" "list" = some false := by decide +kernel
theorem kit_list_str : L2.kitB "list" "str" = some false := by decide +kernel
theorem kit_list_int : L2.kitB "list" "int" = some false := by decide +kernel
theorem kit_list_bool : L2.kitB "list" "bool" = some false := by decide +kernel
theorem kit_list_tuple : L2.kitB "list" "tuple" = some false := by decide +kernel
theorem kit_dict_str : L2.kitB "dict" "str" = some false := by decide +kernel
theorem kit_dict_int : L2.kitB "dict" "int" = some false := by decide +kernel
theorem kit_dict_bool : L2.kitB "dict" "bool" = some false := by decide +kernel
theorem kit_dict_tuple : L2.kitB "dict" "tuple" = some false := by decide +kernel
theorem kit_dict_list : L2.kitB "dict" "list" = some false := by decide +kernel
theorem shp_int {n : Nat} {i : Int} : shp n (.int i) := by cases n <;> simp [shp]
theorem shp_bl {n : Nat} {i : Bool} : shp n (.bl i) := by cases n <;> simp [shp]
theorem shp_non {n : Nat} : shp n .non := by cases n <;> simp [shp]
theorem shp_str {n : Nat} {l : List Nat} (h : ∀ a ∈ l, a < 1114112) : shp n (.str l) := by
  cases n <;> simpa [shp] using h
theorem shp_tup {n : Nat} {ds : List D} (h : ∀ d ∈ ds, shp n d) : shp (n + 1) (.tup ds) := by
  simp only [shp]
  exact shps_all h
theorem shp_lst {n : Nat} {ds : List D} (h : ∀ d ∈ ds, shp n d) : shp (n + 1) (.lst ds) := by
  simp only [shp]
  exact shps_all h
theorem joinL_snoc (s x : List Nat) : ∀ l : List (List Nat), l ≠ [] → joinL s (l ++ [x]) = joinL s l ++ s ++ x
  | [], h => absurd rfl h
  | [a], _ => by simp [joinL]
  | a :: b :: r, _ => by
    have ih := joinL_snoc s x (b :: r) (by simp)
    show a ++ s ++ joinL s (b :: (r ++ [x])) = a ++ s ++ joinL s (b :: r) ++ s ++ x
    rw [show b :: (r ++ [x]) = (b :: r) ++ [x] from rfl, ih]
    simp
theorem split_joinL {a : Nat} (ha : a < 256) {ls : List (List Nat)} (hne : ls ≠ []) (h : ∀ l ∈ ls, a ∉ l) : Txt.split (S (joinL [a] ls)) (S [a]) = ls.map S := by
  have e : Txt.split (Txt.join (S [a]) (ls.map S)) (S [a]) = ls.map S :=
    TL.split_join (y := S [a]) (s := a) (S := []) (parts := ls.map S) rfl (by simpa [S] using ha) (by simpa using hne) fun p hp => by
      obtain ⟨l, hl, e⟩ := List.mem_map.mp hp
      subst e
      exact h l hl
  rw [TL.join_eq, join_S] at e
  exact e
section
variable {c : Cn} {E E' : List (Option D)} {O O' : List Rsc}
theorem sy_is0 (l : EnvLe E' E) (e : O' = O) : Sy c E' O' (At c (Is E O)) := sy_is (X := []) l (by rw [e]; simp)
end
local macro_rules | `(tactic| walk_at "kit") => `(tactic| first | exact kit_eq _ | exact kit_NoneType_str | exact kit_NoneType_int | exact kit_NoneType_bool | exact kit_NoneType_tuple | exact kit_NoneType_list | exact kit_bool_str | exact kit_bool_int | exact kit_bool_tuple | exact kit_bool_list | exact kit_int_str | exact kit_int_bool | exact kit_int_tuple | exact kit_int_list | exact kit_str_int | exact kit_str_bool | exact kit_str_tuple | exact kit_str_list | exact kit_tuple_str | exact kit_tuple_int | exact kit_tuple_bool | exact kit_tuple_list | exact kit_list_str | exact kit_list_int | exact kit_list_bool | exact kit_list_tuple | exact kit_dict_str | exact kit_dict_int | exact kit_dict_bool | exact kit_dict_tuple | exact kit_dict_list)
local macro_rules | `(tactic| walk_at "sd") => `(tactic| first
  | assumption
  | exact sz16 (by assumption) | exact sz16' (by assumption)
  | (first | refine sz16 ?_ | refine sz16' ?_); first | omega | (simp; done) | (simp; omega)
  | omega
  | (simp; done)
  | (simp; omega))
local macro_rules | `(tactic| walk_at "at") => `(tactic| first
  | assumption
  | exact atI_map (by assumption)
  | exact L2.atI_nat (by assumption)
  | exact atI_map0 (by assumption)
  | exact atI_0 (by first | assumption | rfl)
  | exact atI_1 (by first | assumption | rfl)
  | exact atI_2 (by first | assumption | rfl))
local macro_rules | `(tactic| walk_at "isq") => `(tactic| first | exact .tup _ | exact .lst _ | exact .ro _)
local macro_rules | `(tactic| walk_at "shp") => `(tactic| first
  | exact shp_int | exact shp_bl | exact shp_non
  | exact shp_str (by assumption)
  | assumption)
local macro_rules | `(tactic| walk_at "od") => `(tactic| first
  | exact od_add | exact od_sub | exact od_lt | exact od_le | exact od_gt | exact od_ge
  | (refine' od_addS ?a; (case a => walk_at "sd"))
  | (refine' od_mod ?a; (case a => first | decide | walk_at "sd"))
  | (refine' od_div ?a; (case a => first | exact ⟨by decide, by decide⟩ | exact ⟨by omega, by omega⟩ | walk_at "sd"))
  | (refine' od_mul ?a; (case a => first | exact Or.inr ⟨by decide, by decide⟩ | exact Or.inl ⟨by decide, by decide⟩ | exact Or.inl (by assumption) | exact Or.inr (by assumption) | exact Or.inl ⟨by omega, by omega⟩ | exact Or.inr ⟨by omega, by omega⟩ | walk_at "sd"))
  | (refine' od_eq (n := 5) (m := 5) ?a ?b (by decide) (by decide); (case a => walk_at "shp"); (case b => walk_at "shp"))
  | (refine' od_ne (n := 5) (m := 5) ?a ?b (by decide) (by decide); (case a => walk_at "shp"); (case b => walk_at "shp"))
  | exact od_inS | exact od_ninS | exact od_isN raw_ne_non | exact od_isN raw_ne_int | exact od_isN raw_ne_tup | exact od_isN raw_ne_bl | exact od_isN raw_ne_str | exact od_notN raw_ne_non | exact od_notN raw_ne_int | exact od_notN raw_ne_tup | exact od_notN raw_ne_bl | exact od_notN raw_ne_str
  | (refine' od_ix ?q ?h; (case q => walk_at "isq"); (case h => walk_at "at"))
  | (refine' od_ixS ?h1 ?h2; (case h1 => walk_at "sd"); (case h2 => walk_at "at")))
local macro_rules | `(tactic| walk_at "ev") => `(tactic| first
  | assumption
  | exact ev_var rfl | exact ev_int | exact ev_strS | exact ev_bl | exact ev_non
  | ((with_reducible show EvH _ (tVar _) _ _ _); first | exact eh_open (j := 0) rfl rfl | exact eh_open (j := 1) rfl rfl | exact eh_open (j := 2) rfl rfl | exact Ev.h (ev_var rfl))
  | ((with_reducible show Ev _ (tLst _) _ _ _); refine' ev_ofF (ef_lst ?a ?b) ?m; (case a => walk_at "ev"); (case b => walk_at "sd"); (case m => assumption))
  | ((with_reducible show EvH _ (tLst _) _ _ _); refine' eh_ofF (ef_lst ?a ?b); (case a => walk_at "ev"); (case b => walk_at "sd"))
  | ((with_reducible show EvH _ _ _ _ _); refine' Ev.h ?a; (case a => walk_at "ev"))
  | ((with_reducible show EvAH _ _ _ _ _); first | exact eah_nil | (refine' eah_cons ?a ?b; (case a => walk_at "ev"); (case b => walk_at "ev")))
  | ((with_reducible show EvA _ _ _ _ _); first | exact ea_nil | (refine' ea_cons ?a ?b; (case a => walk_at "ev"); (case b => walk_at "ev")))
  | ((with_reducible show EvO _ _ _ _ _); first | exact eo_none | (refine' eo_some ?a; (case a => walk_at "ev")))
  | ((with_reducible show Ev _ (tOp (rIx _) _ _) _ _ _); refine' ev_opC ?a ?b ?r; (case a => walk_at "ev"); (case b => walk_at "ev"); (case r => walk_at "od"))
  | ((with_reducible show Ev _ (tOp _ _ _) _ _ _); refine' ev_op ?a ?b ?r; (case a => walk_at "ev"); (case b => walk_at "ev"); (case r => walk_at "od"))
  | ((with_reducible show Ev _ (tCB (uLen _) _) _ _ _); first
      | (refine' ev_len ?a ?b; (case a => walk_at "ev"); (case b => walk_at "isq"))
      | (refine' ev_lenS ?a ?b; (case a => walk_at "ev"); (case b => walk_at "sd")))
  | ((with_reducible show Ev _ (tCB (uIsi _) _) _ _ _); refine' ev_isi ?a ?b ?r; (case a => walk_at "ev"); (case b => first | exact raw_ne_str | exact raw_ne_int | exact raw_ne_tup | exact raw_ne_lst | exact raw_ne_bl | exact raw_ne_non); (case r => walk_at "kit"))
  | ((with_reducible show Ev _ (tTup _) _ _ _); refine' ev_tup ?a ?b; (case a => walk_at "ev"); (case b => walk_at "sd"))
  | ((with_reducible show Ev _ (tSl _ _ _ _) _ _ _); refine' ev_slS ?a ?b ?d ?e; (case a => walk_at "ev"); (case b => walk_at "ev"); (case d => walk_at "ev"); (case e => walk_at "sd"))
  | ((with_reducible show EvF _ (tLst _) _ _ _); refine' ef_lst ?a ?b; (case a => walk_at "ev"); (case b => walk_at "sd"))
  | ((with_reducible show EvT _ (tTest (tChain _ _ _ _ _)) _ _ _); refine' et_test (ev_chain ?a ?b ?r (fun _ => ?e) (fun _ => ?s)); (case a => walk_at "ev"); (case b => walk_at "ev"); (case r => walk_at "od"); (case e => walk_at "ev"); (case s => walk_at "od"))
  | ((with_reducible show EvT _ (tTest _) _ _ _); refine' et_test ?a; (case a => walk_at "ev"))
  | ((with_reducible show EvT _ (tB _) _ _ _); refine' et_B ?a; (case a => walk_at "ev"))
  | ((with_reducible show EvT _ (tNot _) _ _ _); refine' et_not ?a; (case a => walk_at "ev"))
  | exact et_yes
  | ((with_reducible show EvT _ (tAnd _ _) _ _ _); refine' et_and ?a (fun _ => ?b); (case a => walk_at "ev"); (case b => walk_at "ev"))
  | ((with_reducible show EvT _ (tOr _ _) _ _ _); refine' et_or ?a (fun _ => ?b); (case a => walk_at "ev"); (case b => walk_at "ev"))
  | ((with_reducible show Ev _ (tAndV _ _) _ _ _); refine' ev_and ?a (fun _ => ?b); (case a => walk_at "ev"); (case b => walk_at "ev"))
  | ((with_reducible show Ev _ (tOrV _ _) _ _ _); refine' ev_or ?a (fun _ => ?b); (case a => walk_at "ev"); (case b => walk_at "ev"))
  | ((with_reducible show Ev _ (tNotV _) _ _ _); refine' ev_not ?a; (case a => walk_at "ev")))
local macro_rules | `(tactic| walk_at "le") => `(tactic| ((try dsimp only [List.set, List.map_cons, List.map_nil, List.nil_append, List.cons_append, List.length_cons, List.length_nil, List.replicate]); repeat (first | exact le_nil | exact le_refl _ | refine' le_some ?_ | refine' le_none ?_)))
/-! ### the letters, the signs of a sheet -/
def az : List Nat := [97, 98, 99, 100, 101, 102, 103, 104, 105, 106, 107, 108, 109, 110, 111, 112, 113, 114, 115, 116, 117, 118, 119, 120, 121, 122]
def signs : List Nat := [35, 46, 97, 98, 99, 100, 101, 102, 103, 104, 105, 106, 107, 108, 109, 110, 111, 112, 113, 114, 115, 116, 117, 118, 119, 120, 121, 122]
@[simp] theorem az_len : az.length = 26 := rfl
abbrev c_MOST : V := .int 9
abbrev c_SIGNS : V := .str (S signs)
def sheetD (L : List (List Nat)) : D := .tup (L.map D.str)
structure Sheet (L : List (List Nat)) (h w : Nat) : Prop where
  len : L.length = h
  h1 : 1 ≤ h
  h9 : h ≤ 9
  w1 : 1 ≤ w
  w9 : w ≤ 9
  wid : ∀ l ∈ L, l.length = w
  sg : ∀ l ∈ L, ∀ a ∈ l, a ∈ signs
/-! ### reading the script -/
def cellAt (ns : List Int) (k : Nat) : Int := (ns[k]?).getD 0
def R__law_cell_at : List D → D → Prop := fun ds d => ∃ (ns : List Int) (k : Nat), ds = [.ro (ns.map D.int), .int (k : Int)] ∧ ns.length ≤ 63 ∧ d = .int (cellAt ns k)
theorem len_R__law_cell_at : ∀ ds d, R__law_cell_at ds d → ds.length = 2 := fun _ _ ⟨_, _, e, _⟩ => by rw [e]; rfl
def t__law_cell_at (K : Fg) : TS :=
    tSeq (tIfS (tTest (tOp uLt (tVar 1) (tCB (uLen K) (tCons (tVar 0) (tNil))))) (tSeq (tRet (tOp (rIx K) (tVar 0) (tVar 1)))
    (tNext)) (tNext))
    (tSeq (tRet (tC (.int 0)))
    (tNext))
theorem run__law_cell_at {K : Fg} (c : Cn) (ds : List D) (d : D) (dn : Ends) (hK : c.K = K) (hM : c.M = []) (hR : R__law_cell_at ds d) (hx : dn.nx = fun _ H => dn.rt .non H) (q : RtD c dn.rt d) : Sy c (ds.map some ++ List.replicate (2 - ds.length) none) [] (t__law_cell_at K dn) := by
  subst hK
  obtain ⟨ns, k, rfl, hl, rfl⟩ := hR
  unfold t__law_cell_at
  refine q_when (by walk_at "ev") (fun h => ?_) (fun h => ?_)
  · simp only [decide_eq_true_eq, List.length_map] at h
    have e : ns[k]? = some (cellAt ns k) := by
      unfold cellAt
      rw [List.getElem?_eq_getElem (show k < ns.length by omega)]
      rfl
    exact q_ret (by walk_at "ev") q
  · simp only [decide_eq_false_iff_not, List.length_map] at h
    have e : cellAt ns k = 0 := by
      unfold cellAt
      rw [List.getElem?_eq_none (by omega)]
      rfl
    rw [e] at q
    exact q_ret (by walk_at "ev") q
def mixed (ns : List Int) (k : Nat) : Int := if k < ns.length then cellAt ns k * 48271 % 2147483647 else (cellAt ns 0 + (k : Int) * (k : Int) + 1) * 48271 % 2147483647 * 16807 % 2147483629
theorem mixed_nn (ns : List Int) (k : Nat) : 0 ≤ mixed ns k := by
  unfold mixed
  split <;> exact Int.emod_nonneg _ (by decide)
theorem mixed_lt (ns : List Int) (k : Nat) : mixed ns k < 2147483647 := by
  unfold mixed
  split
  · exact Int.emod_lt_of_pos _ (by decide)
  · have := Int.emod_lt_of_pos ((cellAt ns 0 + (k : Int) * (k : Int) + 1) * 48271 % 2147483647 * 16807) (show (0 : Int) < 2147483629 by decide)
    omega
def R__law_mixed : List D → D → Prop := fun ds d => ∃ (ns : List Int) (k : Nat), ds = [.ro (ns.map D.int), .int (k : Int)] ∧ ns.length ≤ 63 ∧ k ≤ 100000 ∧ d = .int (mixed ns k)
theorem len_R__law_mixed : ∀ ds d, R__law_mixed ds d → ds.length = 2 := fun _ _ ⟨_, _, e, _⟩ => by rw [e]; rfl
def t__law_mixed (K : Fg) : TS :=
    tSeq (tIfS (tTest (tOp uLt (tVar 1) (tCB (uLen K) (tCons (tVar 0) (tNil))))) (tSeq (tRet (tOp uMod (tOp uMul (tOp (rIx K) (tVar 0) (tVar 1)) (tC (.int 48271))) (tC (.int 2147483647))))
    (tNext)) (tNext))
    (tSeq (tRet (tOp uMod (tOp uMul (tOp uMod (tOp uMul (tOp (uAdd K) (tOp (uAdd K) (tCall (spD K R__law_cell_at) [] E0 (tCons (tVar 0) (tCons (tC (.int 0)) (tNil)))) (tOp uMul (tVar 1) (tVar 1))) (tC (.int 1))) (tC (.int 48271))) (tC (.int 2147483647))) (tC (.int 16807))) (tC (.int 2147483629))))
    (tNext))
theorem ev_cell {c : Cn} {E : List (Option D)} {O : List Rsc} {ta te : TE} {ns : List Int} {k : Nat} (h1 : Ev c ta E O (.ro (ns.map D.int))) (h2 : Ev c te E O (.int (k : Int))) (hl : ns.length ≤ 63) : Ev c (tCall (spD c.K R__law_cell_at) [] E0 (tCons ta (tCons te tNil))) E O (.int (cellAt ns k)) :=
  ev_call (ea_cons h1 (ea_cons h2 ea_nil)) ⟨ns, k, rfl, hl, rfl⟩
theorem ev_mixed {c : Cn} {E : List (Option D)} {O : List Rsc} {ta te : TE} {ns : List Int} {k : Nat} (h1 : Ev c ta E O (.ro (ns.map D.int))) (h2 : Ev c te E O (.int (k : Int))) (hl : ns.length ≤ 63) (hk : k ≤ 100000) : Ev c (tCall (spD c.K R__law_mixed) [] E0 (tCons ta (tCons te tNil))) E O (.int (mixed ns k)) :=
  ev_call (ea_cons h1 (ea_cons h2 ea_nil)) ⟨ns, k, rfl, hl, hk, rfl⟩
theorem run__law_mixed {K : Fg} (c : Cn) (ds : List D) (d : D) (dn : Ends) (hK : c.K = K) (hM : c.M = []) (hR : R__law_mixed ds d) (hx : dn.nx = fun _ H => dn.rt .non H) (q : RtD c dn.rt d) : Sy c (ds.map some ++ List.replicate (2 - ds.length) none) [] (t__law_mixed K dn) := by
  subst hK
  obtain ⟨ns, k, rfl, hl, hk, rfl⟩ := hR
  unfold t__law_mixed
  have hkk : -(2 ^ 64) < (k : Int) ∧ (k : Int) < 2 ^ 64 := ⟨by omega, by omega⟩
  refine q_when (by walk_at "ev") (fun h => ?_) (fun h => ?_)
  · simp only [decide_eq_true_eq, List.length_map] at h
    have h' : k < ns.length := by omega
    have e : ns[k]? = some (cellAt ns k) := by
      unfold cellAt
      rw [List.getElem?_eq_getElem h']
      rfl
    unfold mixed at q
    rw [if_pos h'] at q
    exact q_ret (by walk_at "ev") q
  · simp only [decide_eq_false_iff_not, List.length_map] at h
    unfold mixed at q
    rw [if_neg (by omega)] at q
    have e0 := ev_cell (c := c) (E := [some (.ro (ns.map D.int)), some (.int (k : Int))]) (O := []) (ta := tVar 0) (te := tC (.int 0)) (ns := ns) (k := 0) (ev_var rfl) ev_int hl
    exact q_ret (by walk_at "ev") q
local macro_rules | `(tactic| walk_at "ev") => `(tactic| first
  | (refine' ev_cell ?a ?b ?h; (case a => walk_at "ev"); (case b => first | exact ev_int | walk_at "ev"); (case h => assumption))
  | (refine' ev_mixed ?a ?b ?h ?k; (case a => walk_at "ev"); (case b => walk_at "ev"); (case h => assumption); (case k => first | assumption | omega)))
/-! ### the sheet that a script tells -/
def signOf (m : Int) : Nat := [46, 35, az.getD (m / 3 % 26).toNat 0].getD (m % 3).toNat 0
def rowOf (ns : List Int) (first w k : Nat) : List Nat := (List.range w).map fun j => signOf (mixed ns (first + k * w + j))
def mkSheet (ns : List Int) (first : Nat) : List (List Nat) := (List.range (1 + (cellAt ns 0 % 9).toNat)).map fun k => rowOf ns first (1 + (cellAt ns 0 / 9 % 9).toNat) k
theorem signOf_mem (m : Int) : signOf m ∈ signs := by
  unfold signOf
  have h1 : (m % 3).toNat < 3 := by have := Int.emod_lt_of_pos m (show (0 : Int) < 3 by decide); have := Int.emod_nonneg m (show (3 : Int) ≠ 0 by decide); omega
  have h2 : (m / 3 % 26).toNat < 26 := by have := Int.emod_lt_of_pos (m / 3) (show (0 : Int) < 26 by decide); have := Int.emod_nonneg (m / 3) (show (26 : Int) ≠ 0 by decide); omega
  generalize (m % 3).toNat = a at h1
  generalize (m / 3 % 26).toNat = b at h2
  have key : ∀ b : Fin 26, ∀ a : Fin 3, [46, 35, az.getD b.1 0].getD a.1 0 ∈ signs := by decide +kernel
  exact key ⟨b, h2⟩ ⟨a, h1⟩
theorem mkSheet_ok (ns : List Int) (first : Nat) : Sheet (mkSheet ns first) (1 + (cellAt ns 0 % 9).toNat) (1 + (cellAt ns 0 / 9 % 9).toNat) := by
  have e1 := Int.emod_lt_of_pos (cellAt ns 0) (show (0 : Int) < 9 by decide)
  have e2 := Int.emod_nonneg (cellAt ns 0) (show (9 : Int) ≠ 0 by decide)
  have e3 := Int.emod_lt_of_pos (cellAt ns 0 / 9) (show (0 : Int) < 9 by decide)
  have e4 := Int.emod_nonneg (cellAt ns 0 / 9) (show (9 : Int) ≠ 0 by decide)
  refine ⟨by simp [mkSheet], by omega, by omega, by omega, by omega, fun l hl => ?_, fun l hl a ha => ?_⟩
  · obtain ⟨k, _, rfl⟩ := List.mem_map.mp hl
    simp [rowOf]
  · obtain ⟨k, _, rfl⟩ := List.mem_map.mp hl
    obtain ⟨j, _, rfl⟩ := List.mem_map.mp ha
    exact signOf_mem _
def R__law_sheet : List D → D → Prop := fun ds d => ∃ (ns : List Int) (first : Nat), ds = [.ro (ns.map D.int), .int (first : Int)] ∧ ns.length ≤ 63 ∧ first ≤ 1000 ∧ d = sheetD (mkSheet ns first)
theorem len_R__law_sheet : ∀ ds d, R__law_sheet ds d → ds.length = 2 := fun _ _ ⟨_, _, e, _⟩ => by rw [e]; rfl
def t__law_sheet (K : Fg) : TS :=
    tSeq (tAsg (tCall (spD K R__law_cell_at) [] E0 (tCons (tVar 0) (tCons (tC (.int 0)) (tNil)))) (gName 2))
    (tSeq (tAsg (tOp (uAdd K) (tC (.int 1)) (tOp uMod (tOp uDiv (tVar 2) (tC (.int 9))) (tC (.int 9)))) (gName 3))
    (tSeq (tAsg (tC (.str (S [97, 98, 99, 100, 101, 102, 103, 104, 105, 106, 107, 108, 109, 110, 111, 112, 113, 114, 115, 116, 117, 118, 119, 120, 121, 122]))) (gName 4))
    (tSeq (tAsg (tLst (tNil)) (gName 5))
    (tSeq (tFor (iRng1 (tCons (tOp (uAdd K) (tC (.int 1)) (tOp uMod (tVar 2) (tC (.int 9)))) (tNil))) (gName 6) (tSeq (tAsg (tC (.str (S []))) (gName 7))
    (tSeq (tFor (iRng1 (tCons (tVar 3) (tNil))) (gName 8) (tSeq (tAsg (tCall (spD K R__law_mixed) [] E0 (tCons (tVar 0) (tCons (tOp (uAdd K) (tOp (uAdd K) (tVar 1) (tOp uMul (tVar 6) (tVar 3))) (tVar 8)) (tNil)))) (gName 9))
    (tSeq (tAsg (tOp (uAdd K) (tVar 7) (tOp (rIx K) (tLst (tCons (tC (.str (S [46]))) (tCons (tC (.str (S [35]))) (tCons (tOp (rIx K) (tVar 4) (tOp uMod (tOp uDiv (tVar 9) (tC (.int 3))) (tC (.int 26)))) (tNil))))) (tOp uMod (tVar 9) (tC (.int 3))))) (gName 7))
    (tNext))))
    (tSeq (tDrop (tBM K "list" rAppend (tVar 5) (tCons (tVar 7) (tNil))))
    (tNext)))))
    (tSeq (tRet (tCB (uTuple K) (tCons (tVar 5) (tNil))))
    (tNext))))))
theorem run__law_sheet {K : Fg} (c : Cn) (ds : List D) (d : D) (dn : Ends) (hK : c.K = K) (hM : c.M = []) (hR : R__law_sheet ds d) (hx : dn.nx = fun _ H => dn.rt .non H) (q : RtD c dn.rt d) : Sy c (ds.map some ++ List.replicate (10 - ds.length) none) [] (t__law_sheet K dn) := by
  subst hK
  obtain ⟨ns, first, rfl, hl, hf, rfl⟩ := hR
  unfold t__law_sheet
  have e1 := Int.emod_lt_of_pos (cellAt ns 0) (show (0 : Int) < 9 by decide)
  have e2 := Int.emod_nonneg (cellAt ns 0) (show (9 : Int) ≠ 0 by decide)
  have e3 := Int.emod_lt_of_pos (cellAt ns 0 / 9) (show (0 : Int) < 9 by decide)
  have e4 := Int.emod_nonneg (cellAt ns 0 / 9) (show (9 : Int) ≠ 0 by decide)
  obtain ⟨h, eh⟩ : ∃ h : Nat, h = (cellAt ns 0 % 9).toNat := ⟨_, rfl⟩
  obtain ⟨w, ew⟩ : ∃ w : Nat, w = (cellAt ns 0 / 9 % 9).toNat := ⟨_, rfl⟩
  refine q_asg (by walk_at "ev") ?_
  refine q_asg (by walk_at "ev") ?_
  refine q_asg (by walk_at "ev") ?_
  refine q_asgF (by walk_at "ev") fun p => ?_
  have ewi : (1 + cellAt ns 0 / 9 % 9 : Int) = ((1 + w : Nat) : Int) := by omega
  refine q_for (wk_rng1 (n := 1 + cellAt ns 0 % 9) (by walk_at "ev") ⟨by omega, by omega⟩) (fun k => [some (.ro (ns.map D.int)), some (.int (first : Int)), some (.int (cellAt ns 0)), some (.int ((1 + w : Nat) : Int)), some (.str az), some (.raw (.ref p)), none, none, none, none])
    (fun k => [rLst p (((List.range k).map (rowOf ns first (1 + w))).map D.str)]) (by rw [ewi]; walk_at "le") (by simp) (fun k x X hk hx => ?_) ?_
  · subst hx
    refine ⟨_, gt_name, ?_⟩
    refine q_asg (by walk_at "ev") ?_
    refine q_for (wk_rng1 (n := ((1 + w : Nat) : Int)) (by walk_at "ev") ⟨by omega, by omega⟩) (fun j => [some (.ro (ns.map D.int)), some (.int (first : Int)), some (.int (cellAt ns 0)), some (.int ((1 + w : Nat) : Int)), some (.str az), some (.raw (.ref p)), some (.int (k : Int)), some (.str ((List.range j).map fun j => signOf (mixed ns (first + k * (1 + w) + j)))), none, none])
      (fun j => [rLst p (((List.range k).map (rowOf ns first (1 + w))).map D.str)] ++ X) (by walk_at "le") rfl (fun j y Y hj hy => ?_) ?_
    · subst hy
      refine ⟨_, gt_name, ?_⟩
      have ek : ((first : Int) + (k : Int) * ((1 + w : Nat) : Int) + (j : Int)) = ((first + k * (1 + w) + j : Nat) : Int) := by simp
      have hkw : k * (1 + w) ≤ 9 * 9 := Nat.mul_le_mul (by omega) (by omega)
      refine q_asg (d := .int (mixed ns (first + k * (1 + w) + j))) ?_ ?_
      · refine ev_mixed (by walk_at "ev") (ev_is (d1 := .int ((first : Int) + (k : Int) * ((1 + w : Nat) : Int) + (j : Int))) (by walk_at "ev") (by rw [ek])) hl (by omega)
      · generalize em : mixed ns (first + k * (1 + w) + j) = m
        have a1 := Int.emod_lt_of_pos (m / 3) (show (0 : Int) < 26 by decide)
        have a2 := Int.emod_nonneg (m / 3) (show (26 : Int) ≠ 0 by decide)
        have a3 := Int.emod_lt_of_pos m (show (0 : Int) < 3 by decide)
        have a4 := Int.emod_nonneg m (show (3 : Int) ≠ 0 by decide)
        have i1 : L2.atI az (m / 3 % 26) = some (az.getD (m / 3 % 26).toNat 0) := atI_getD a2 (by simpa using a1)
        have i2 : L2.atI [D.str [46], D.str [35], D.str [az.getD (m / 3 % 26).toNat 0]] (m % 3) = some (D.str [signOf m]) := by
          have z : L2.atI ([46, 35, az.getD (m / 3 % 26).toNat 0].map fun a => D.str [a]) (m % 3) = some (D.str [signOf m]) := by
            rw [atI_mapI, atI_getD (d := 0) a4 (by simpa using a3)]
            rfl
          exact z
        refine q_asg (by walk_at "ev") ?_
        refine q_next (sy_is0 ?_ rfl)
        rw [List.range_succ, List.map_append]
        show EnvLe _ [_, _, _, _, _, _, _, some (.str (_ ++ [signOf (mixed ns (first + k * (1 + w) + j))])), none, none]
        rw [em]
        walk_at "le"
    · refine q_app 0 rfl rfl (by walk_at "ev") ?_ ?_
      · skip
        exact sz16' (by simp; omega)
      refine q_next (sy_is0 ?_ ?_)
      · walk_at "le"
      simp only [Int.toNat_natCast, List.cons_append, List.nil_append, List.set_cons_zero, List.range_succ, List.map_append, List.map_cons, List.map_nil]
      rfl
  · have en : (1 + cellAt ns 0 % 9).toNat = 1 + h := by omega
    rw [en]
    refine q_ret (ev_tupleO (j := 0) rfl rfl) ?_
    unfold sheetD mkSheet at q
    rw [← eh, ← ew] at q
    exact q
theorem sg_small {l : List Nat} (h : ∀ a ∈ l, a ∈ signs) : ∀ a ∈ l, a < 1114112 := fun a ha => by
  have key : ∀ a ∈ signs, a < 1114112 := by decide +kernel
  exact key a (h a ha)
def isLine (l : List Nat) (n : Int) : Bool := decide ((l.length : Int) = n) && (decide (1 ≤ n) && decide (n ≤ 9)) && l.all fun a => decide (a ∈ signs)
def R_is_line : List D → D → Prop := fun ds d => ∃ (l : List Nat) (n : Int), ds = [.str l, .int n] ∧ l.length ≤ 10000 ∧ d = .bl (isLine l n)
theorem len_R_is_line : ∀ ds d, R_is_line ds d → ds.length = 2 := fun _ _ ⟨_, _, e, _⟩ => by rw [e]; rfl
def t_is_line (K : Fg) : TS :=
    tSeq (tIfS (tOr (tTest (tOp (uNe K) (tCB (uLen K) (tCons (tVar 0) (tNil))) (tVar 1))) (tNot (tTest (tChain uLe uLe (tC (.int 1)) (tVar 1) (tC c_MOST))))) (tSeq (tRet (tC (.bl false)))
    (tNext)) (tNext))
    (tSeq (tRet (tCB (rAll K) (tCons (tLc (iSq K (tVar 0)) (gName 2) (tYes) (tOp (uIn K) (tVar 2) (tC c_SIGNS)) [2]) (tNil))))
    (tNext))
theorem run_is_line {K : Fg} (c : Cn) (ds : List D) (d : D) (dn : Ends) (hK : c.K = K) (hM : c.M = []) (hR : R_is_line ds d) (hx : dn.nx = fun _ H => dn.rt .non H) (q : RtD c dn.rt d) : Sy c (ds.map some ++ List.replicate (3 - ds.length) none) [] (t_is_line K dn) := by
  subst hK
  obtain ⟨l, n, rfl, hl, rfl⟩ := hR
  unfold t_is_line
  refine q_when (by walk_at "ev") (fun h => ?_) (fun h => ?_)
  · rw [deq_int] at h
    have e : isLine l n = false := by
      unfold isLine
      simp at h
      rcases h with h | h | h
      · simp [h]
      · have : ¬ (1 ≤ n) := by omega
        simp [this]
      · have : ¬ (n ≤ 9) := by omega
        simp [this]
    rw [e] at q
    exact q_ret (by walk_at "ev") q
  · rw [deq_int] at h
    have e : isLine l n = (l.map fun a => decide (a ∈ signs)).all id := by
      unfold isLine
      simp at h
      obtain ⟨h1, h2, h3⟩ := h
      simp [h1, h2, h3]
    rw [e] at q
    refine q_ret (ev_all ?_) q
    have z := ef_lc (c := c) (E := [some (.str l), some (.int n), none]) (O := []) (te := tOp (uIn c.K) (tVar 2) (tC c_SIGNS)) (tt := tYes) (g := gName 2) (vs := [2]) (wk_str (l := l) (tl := tVar 0) (by walk_at "ev")) [some (.str l), some (.int n), none] (le_refl _) (by simp)
      (fun i => ((l.take i).map fun a => decide (a ∈ signs)).map D.bl) (by simp) (by omega) (fun i x hi hx => ?_)
    · simpa using z
    · obtain ⟨a, ha, rfl⟩ := hx
      refine ⟨_, gw_name (by simp), true, fun X => et_yes, fun _ => ⟨.bl (decide (a ∈ signs)), fun X => ?_, ?_⟩, fun h => nomatch h⟩
      · walk_at "ev"
      · rw [List.take_succ, ha]
        simp
/-! ### a sheet is read, shown -/
def textOf (L : List (List Nat)) : List Nat := joinL [10] L
theorem sheet_ne {L : List (List Nat)} {h w : Nat} (s : Sheet L h w) : L ≠ [] := fun e => by
  have := s.len
  have := s.h1
  rw [e] at *
  simp at *
  omega
theorem textOf_len {L : List (List Nat)} : (textOf L).length ≤ (L.map (·.length)).sum + L.length := by
  unfold textOf
  induction L with
  | nil => simp [joinL]
  | cons a L ih =>
    cases L with
    | nil => simp [joinL]
    | cons b L =>
      simp only [joinL, List.length_append, List.map_cons, List.sum_cons, List.length_cons] at ih ⊢
      simp at ih ⊢
      omega
theorem sum_len {L : List (List Nat)} {w : Nat} (h : ∀ l ∈ L, l.length = w) : (L.map (·.length)).sum = L.length * w := by
  induction L with
  | nil => simp
  | cons a L ih =>
    rw [List.map_cons, List.sum_cons, ih fun l hl => h l (by simp [hl]), h a (by simp), List.length_cons, Nat.succ_mul]
    omega
theorem textOf_mem {L : List (List Nat)} {a : Nat} (h : a ∈ textOf L) : a = 10 ∨ ∃ l ∈ L, a ∈ l := by
  unfold textOf at h
  induction L with
  | nil => simp [joinL] at h
  | cons x L ih =>
    cases L with
    | nil => exact .inr ⟨x, by simp, h⟩
    | cons y L =>
      simp only [joinL, List.mem_append] at h
      rcases h with (h | h) | h
      · exact .inr ⟨x, by simp, h⟩
      · exact .inl (by simpa using h)
      · rcases ih h with e | ⟨l, hl, hm⟩
        · exact .inl e
        · exact .inr ⟨l, by simp only [List.mem_cons] at hl ⊢; exact .inr hl, hm⟩
theorem textOf_small {L : List (List Nat)} {h w : Nat} (s : Sheet L h w) : ∀ a ∈ textOf L, a < 1114112 := fun a ha => by
  rcases textOf_mem ha with e | ⟨l, hl, hm⟩
  · omega
  · exact sg_small (s.sg l hl) a hm
theorem Sheet.sum {L : List (List Nat)} {h w : Nat} (s : Sheet L h w) : (L.map (·.length)).sum ≤ 81 := by
  rw [sum_len s.wid, s.len]
  exact Nat.mul_le_mul s.h9 s.w9
theorem Sheet.tlen {L : List (List Nat)} {h w : Nat} (s : Sheet L h w) : (textOf L).length ≤ 90 := by
  have h1 := textOf_len (L := L)
  have h2 := s.sum
  have h3 := s.len
  have h4 := s.h9
  omega
def R_show_sheet : List D → D → Prop := fun ds d => ∃ (L : List (List Nat)) (h w : Nat), ds = [sheetD L] ∧ Sheet L h w ∧ d = .str (textOf L)
theorem len_R_show_sheet : ∀ ds d, R_show_sheet ds d → ds.length = 1 := fun _ _ ⟨_, _, _, e, _⟩ => by rw [e]; rfl
def t_show_sheet (K : Fg) : TS :=
    tSeq (tRet (tM1 (uJoin K) (tC (.str (S [10]))) (tVar 0)))
    (tNext)
theorem run_show_sheet {K : Fg} (c : Cn) (ds : List D) (d : D) (dn : Ends) (hK : c.K = K) (hM : c.M = []) (hR : R_show_sheet ds d) (hx : dn.nx = fun _ H => dn.rt .non H) (q : RtD c dn.rt d) : Sy c (ds.map some ++ List.replicate (1 - ds.length) none) [] (t_show_sheet K dn) := by
  subst hK
  obtain ⟨L, h, w, rfl, hs, rfl⟩ := hR
  unfold t_show_sheet
  refine q_ret (ev_join (ls := L) (by walk_at "ev") (Ev.h (ev_var rfl)) (.tup _) ?_) q
  have := hs.sum
  have := hs.len
  have := hs.h9
  simp
  omega
def R_read_sheet : List D → D → Prop := fun ds d => ∃ (L : List (List Nat)) (h w : Nat), ds = [.str (textOf L)] ∧ Sheet L h w ∧ d = sheetD L
theorem len_R_read_sheet : ∀ ds d, R_read_sheet ds d → ds.length = 1 := fun _ _ ⟨_, _, _, e, _⟩ => by rw [e]; rfl
def t_read_sheet (K : Fg) : TS :=
    tSeq (tIfS (tNot (tB (tCB (uIsi K) (tCons (tVar 0) (tCons (tC (.ty "str")) (tNil)))))) (tSeq (tNever)
    (tNext)) (tNext))
    (tSeq (tAsg (tM1 uSplit (tVar 0) (tC (.str (S [10])))) (gName 1))
    (tSeq (tFor (iEnum K (tCons (tVar 1) (tNil))) (gTup K 2 (gCons (gName 2) (gCons (gName 3) (gNil)))) (tSeq (tIfS (tOr (tTest (tOp (uEq K) (tVar 2) (tC c_MOST))) (tNot (tB (tCall (spD K R_is_line) [] E0 (tCons (tVar 3) (tCons (tCB (uLen K) (tCons (tOp (rIx K) (tVar 1) (tC (.int 0))) (tNil))) (tNil))))))) (tSeq (tNever)
    (tNext)) (tNext))
    (tNext)))
    (tSeq (tRet (tCB (uTuple K) (tCons (tVar 1) (tNil))))
    (tNext))))
theorem ten_signs : 10 ∉ signs := by decide
theorem run_read_sheet {K : Fg} (c : Cn) (ds : List D) (d : D) (dn : Ends) (hK : c.K = K) (hM : c.M = []) (hR : R_read_sheet ds d) (hx : dn.nx = fun _ H => dn.rt .non H) (q : RtD c dn.rt d) : Sy c (ds.map some ++ List.replicate (4 - ds.length) none) [] (t_read_sheet K dn) := by
  subst hK
  obtain ⟨L, h, w, rfl, hs, rfl⟩ := hR
  unfold t_read_sheet
  refine q_when (b := !true) (by walk_at "ev") (fun h => nomatch h) (fun _ => ?_)
  have sp : Txt.split (S (textOf L)) (S [10]) = L.map S := split_joinL (by decide) (sheet_ne hs) fun l hl ha => ten_signs (hs.sg l hl _ ha)
  have ht := hs.tlen
  refine q_asg (d := .lst (L.map D.str)) (ev_ofF (ef_split (by walk_at "ev") (by walk_at "ev") (by simp) (sz16 (by omega)) sp) hM) ?_
  have hlen := hs.len
  have h9 := hs.h9
  obtain ⟨l0, h0⟩ : ∃ l0, L[0]? = some l0 := ⟨L[0]'(by have := hs.h1; omega), List.getElem?_eq_getElem _⟩
  have w0 : l0.length = w := hs.wid _ (List.mem_of_getElem? h0)
  have w9 := hs.w9
  have w1 := hs.w1
  refine q_for (wk_enum (ds := L.map D.str) (q := .lst (L.map D.str)) (by walk_at "ev") (.lst _)) (fun _ => [some (.str (textOf L)), some (.lst (L.map D.str)), none, none]) (fun _ => []) (by walk_at "le") rfl (fun i x X hi hx => ?_) ?_
  · obtain ⟨y, hy, rfl⟩ := hx
    rw [List.getElem?_map] at hy
    obtain ⟨l, hl, rfl⟩ := Option.map_eq_some_iff.mp hy
    have wl : l.length = w := hs.wid _ (List.mem_of_getElem? hl)
    refine ⟨_, gt_tup (gts_cons gt_name (gts_cons gt_name gts_nil)) rfl, ?_⟩
    have ok : isLine l (l0.length : Int) = true := by
      unfold isLine
      have h1 : (1 : Int) ≤ l0.length := by omega
      have h2 : (l0.length : Int) ≤ 9 := by omega
      have h3 : (l.all fun a => decide (a ∈ signs)) = true := by
        rw [List.all_eq_true]
        intro a ha
        exact decide_eq_true (hs.sg l (List.mem_of_getElem? hl) a ha)
      rw [h3, decide_eq_true h1, decide_eq_true h2, decide_eq_true (show (l.length : Int) = l0.length by omega)]
      rfl
    have hz : l0.length ≤ sizeLine := sz16 (by omega)
    have hc : Ev c (tCall (spD c.K R_is_line) [] E0 (tCons (tVar 3) (tCons (tCB (uLen c.K) (tCons (tOp (rIx c.K) (tVar 1) (tC (.int 0))) (tNil))) (tNil)))) [some (.str (textOf L)), some (.lst (L.map D.str)), some (.int (i : Int)), some (.str l)] ([] ++ X) (.bl true) :=
      ev_call (ds := [.str l, .int (l0.length : Int)]) (by walk_at "ev") ⟨l, l0.length, rfl, by omega, by rw [ok]⟩
    refine q_when (et_or (by walk_at "ev") (fun _ => et_not (et_B hc))) (fun h => ?_) (fun h => ?_)
    · rw [deq_int] at h
      rw [List.length_map] at hi
      simp at h
      omega
    · exact q_next (sy_is0 (by walk_at "le") rfl)
  · exact q_ret (ev_tupleL (by walk_at "ev") (.lst _)) q
theorem ev_law_sheet {c : Cn} {E : List (Option D)} {O : List Rsc} {ta te : TE} {ns : List Int} {first : Nat} (h1 : Ev c ta E O (.ro (ns.map D.int))) (h2 : Ev c te E O (.int (first : Int))) (hl : ns.length ≤ 63) (hf : first ≤ 1000) : Ev c (tCall (spD c.K R__law_sheet) [] E0 (tCons ta (tCons te tNil))) E O (sheetD (mkSheet ns first)) :=
  ev_call (ea_cons h1 (ea_cons h2 ea_nil)) ⟨ns, first, rfl, hl, hf, rfl⟩
theorem ev_read_sheet {c : Cn} {E : List (Option D)} {O : List Rsc} {te : TE} {L : List (List Nat)} {h w : Nat} (h1 : Ev c te E O (.str (textOf L))) (hs : Sheet L h w) : Ev c (tCall (spD c.K R_read_sheet) [] E0 (tCons te tNil)) E O (sheetD L) :=
  ev_call (ea_cons h1 ea_nil) ⟨L, h, w, rfl, hs, rfl⟩
theorem ev_show_sheet {c : Cn} {E : List (Option D)} {O : List Rsc} {te : TE} {L : List (List Nat)} {h w : Nat} (h1 : Ev c te E O (sheetD L)) (hs : Sheet L h w) : Ev c (tCall (spD c.K R_show_sheet) [] E0 (tCons te tNil)) E O (.str (textOf L)) :=
  ev_call (ea_cons h1 ea_nil) ⟨L, h, w, rfl, hs, rfl⟩
theorem shp_sheet {L : List (List Nat)} {h w n : Nat} (hs : Sheet L h w) : shp (n + 1) (sheetD L) := shp_tup fun d hd => by
  obtain ⟨l, hl, rfl⟩ := List.mem_map.mp hd
  exact shp_str (sg_small (hs.sg l hl))
theorem deq_sheet (L M : List (List Nat)) : deq (sheetD L) (sheetD M) = decide (L = M) := by
  unfold sheetD
  rw [deq_tup, deqs_map deq_str]
theorem len_RLaw : ∀ ds d, RLaw ds d → ds.length = 1 := fun _ _ ⟨_, e, _⟩ => by rw [e]; rfl
def t_law (K : Fg) : TS :=
    tSeq (tAsg (tCall (spD K R__law_sheet) [] E0 (tCons (tVar 0) (tCons (tC (.int 1)) (tNil)))) (gName 1))
    (tSeq (tAsg (tOp (rIx K) (tVar 1) (tC (.int 0))) (gName 2))
    (tSeq (tFor (iSq K (tSl (uSl K) (tVar 1) (tPart (tC (.int 1))) (tNoPart))) (gName 3) (tSeq (tAsg (tOp (uAdd K) (tOp (uAdd K) (tVar 2) (tC (.str (S [10])))) (tVar 3)) (gName 2))
    (tNext)))
    (tSeq (tAsg (tCall (spD K R_read_sheet) [] E0 (tCons (tVar 2) (tNil))) (gName 4))
    (tSeq (tIfS (tOr (tNot (tB (tCB (uIsi K) (tCons (tVar 4) (tCons (tC (.ty "tuple")) (tNil)))))) (tTest (tOp (uNe K) (tCB (uLen K) (tCons (tVar 4) (tNil))) (tCB (uLen K) (tCons (tVar 1) (tNil)))))) (tSeq (tRet (tC (.bl false)))
    (tNext)) (tNext))
    (tSeq (tFor (iRng1 (tCons (tCB (uLen K) (tCons (tVar 1) (tNil))) (tNil))) (gName 5) (tSeq (tIfS (tOr (tNot (tB (tCB (uIsi K) (tCons (tOp (rIx K) (tVar 4) (tVar 5)) (tCons (tC (.ty "str")) (tNil)))))) (tTest (tOp (uNe K) (tOp (rIx K) (tVar 4) (tVar 5)) (tOp (rIx K) (tVar 1) (tVar 5))))) (tSeq (tRet (tC (.bl false)))
    (tNext)) (tNext))
    (tNext)))
    (tSeq (tAsg (tCall (spD K R_show_sheet) [] E0 (tCons (tVar 1) (tNil))) (gName 6))
    (tSeq (tRet (tAndV (tCB (uIsi K) (tCons (tVar 6) (tCons (tC (.ty "str")) (tNil)))) (tAndV (tOp (uEq K) (tVar 6) (tVar 2)) (tOp (uEq K) (tCall (spD K R_read_sheet) [] E0 (tCons (tVar 6) (tNil))) (tVar 1)))))
    (tNext))))))))
theorem run_law {K : Fg} (c : Cn) (ds : List D) (d : D) (dn : Ends) (hK : c.K = K) (hM : c.M = []) (hR : RLaw ds d) (hx : dn.nx = fun _ H => dn.rt .non H) (q : RtD c dn.rt d) : Sy c (ds.map some ++ List.replicate (7 - ds.length) none) [] (t_law K dn) := by
  subst hK
  obtain ⟨ns, rfl, hl, rfl⟩ := hR
  unfold t_law
  refine q_asg (ev_law_sheet (first := 1) (by walk_at "ev") ev_int hl (by decide)) ?_
  have hs := mkSheet_ok ns 1
  generalize mkSheet ns 1 = L at hs
  generalize 1 + (cellAt ns 0 % 9).toNat = h at hs
  generalize 1 + (cellAt ns 0 / 9 % 9).toNat = w at hs
  have hlen := hs.len
  have h9 := hs.h9
  have h1 := hs.h1
  have hne := sheet_ne hs
  obtain ⟨l0, h0⟩ : ∃ l0, L[0]? = some l0 := ⟨L[0]'(by omega), List.getElem?_eq_getElem _⟩
  have hsh : shp 5 (sheetD L) := shp_sheet hs
  have ht := hs.tlen
  have tk : ∀ i, (textOf (L.take i)).length ≤ 90 := fun i => by
    have z := textOf_len (L := L.take i)
    have z2 := sum_len (L := L.take i) (w := w) fun l hl => hs.wid l (List.mem_of_mem_take hl)
    have z3 : (L.take i).length * w ≤ 9 * 9 := Nat.mul_le_mul (by rw [List.length_take]; omega) hs.w9
    have z4 : (L.take i).length ≤ 9 := by rw [List.length_take]; omega
    omega
  refine q_asg (d := .str l0) (ev_opC (d1 := sheetD L) (by walk_at "ev") (by walk_at "ev") (od_ix (.tup _) (atI_map0 h0))) ?_
  have ecut : cutL (L.map D.str) (some 1) none = (L.drop 1).map D.str := by
    rw [show (some (1 : Int)) = some ((1 : Nat) : Int) from rfl, cutL_from, List.map_drop]
  have hdl : (L.drop 1).length = h - 1 := by rw [List.length_drop, hlen]
  have e0 : textOf (L.take 1) = l0 := by
    cases L with
    | nil => exact absurd rfl hne
    | cons a L =>
      have : a = l0 := by simpa using h0
      subst this
      rfl
  refine q_for (wk_tup (ds := (L.drop 1).map D.str) (tl := tSl (uSl c.K) (tVar 1) (tPart (tC (.int 1))) tNoPart) ?_) (fun i => [some (.ro (ns.map D.int)), some (sheetD L), some (.str (textOf (L.take (1 + i)))), none, none, none, none]) (fun _ => []) (by rw [Nat.add_zero, e0]; walk_at "le") rfl (fun i x X hi hx => ?_) ?_
  · rw [← ecut]
    refine ev_slT (ev_var rfl) (by walk_at "ev") (by walk_at "ev") ?_
    rintro ⟨z, _⟩
    have z' : HT.sIx (L.map D.str).length 0 (some ((1 : Nat) : Int)) = 0 := z
    rw [HT.sIx_nat, List.length_map] at z'
    omega
  · rw [List.getElem?_map] at hx
    obtain ⟨l, hl1, rfl⟩ := Option.map_eq_some_iff.mp hx
    rw [List.getElem?_drop] at hl1
    refine ⟨_, gt_name, ?_⟩
    have t1 := tk (1 + i)
    have t2 : l.length ≤ 9 := by rw [hs.wid l (List.mem_of_getElem? hl1)]; exact hs.w9
    refine q_asg (d := .str (textOf (L.take (1 + i)) ++ [10] ++ l)) ?_ ?_
    · have s1 : (textOf (L.take (1 + i))).length + [10].length ≤ sizeLine := sz16 (by simp; omega)
      have s2 : (textOf (L.take (1 + i)) ++ [10]).length + l.length ≤ sizeLine := sz16 (by simp; omega)
      walk_at "ev"
    · refine q_next (sy_is0 ?_ rfl)
      have e : textOf (L.take (1 + (i + 1))) = textOf (L.take (1 + i)) ++ [10] ++ l := by
        unfold textOf
        rw [← joinL_snoc]
        · rw [← Nat.add_assoc, List.take_succ, hl1]
          rfl
        · intro z
          have := congrArg List.length z
          rw [List.length_take, List.length_nil] at this
          omega
      rw [e]
      walk_at "le"
  · have e : L.take (1 + ((L.drop 1).map D.str).length) = L := by
      rw [List.length_map, hdl]
      exact List.take_of_length_le (by omega)
    rw [e]
    refine q_asg (ev_read_sheet (by walk_at "ev") hs) ?_
    have i1 : Ev c (tVar 4) [some (.ro (ns.map D.int)), some (sheetD L), some (.str (textOf L)), none, some (.tup (L.map D.str)), none, none] [] (.tup (L.map D.str)) := ev_var rfl
    refine q_when (b := !true || !deq (.int ((L.map D.str).length : Int)) (.int ((L.map D.str).length : Int))) ?_ (fun h => ?_) (fun _ => ?_)
    · refine et_or (et_not (et_B (ev_isi (d := .tup (L.map D.str)) (Ev.h (ev_var rfl)) raw_ne_tup (kit_eq _)))) (fun _ => et_test (ev_op (Ev.h (ev_len (ds := L.map D.str) (q := sheetD L) (Ev.h (ev_var rfl)) (.tup _))) (Ev.h (ev_len (ds := L.map D.str) (q := sheetD L) (Ev.h (ev_var rfl)) (.tup _))) (by walk_at "od")))
    · rw [deq_int] at h
      simp at h
    · refine q_for (wk_rng1 (n := ((L.map D.str).length : Int)) (ev_len (q := sheetD L) (Ev.h (ev_var rfl)) (.tup _)) ⟨by omega, by rw [List.length_map]; omega⟩) (fun i => [some (.ro (ns.map D.int)), some (sheetD L), some (.str (textOf L)), none, some (sheetD L), none, none]) (fun _ => []) (by walk_at "le") rfl (fun i x X hi hx => ?_) ?_
      · subst hx
        refine ⟨_, gt_name, ?_⟩
        have hi' : i < L.length := by simpa using hi
        have hl1 := List.getElem?_eq_getElem hi'
        generalize L[i] = l at hl1
        have hsm : ∀ a ∈ l, a < 1114112 := sg_small (hs.sg l (List.mem_of_getElem? hl1))
        have v4 : Ev c (tOp (rIx c.K) (tVar 4) (tVar 5)) [some (.ro (ns.map D.int)), some (sheetD L), some (.str (textOf L)), none, some (sheetD L), some (.int (i : Int)), none] ([] ++ X) (.str l) := ev_opC (d1 := sheetD L) (ev_var rfl) (Ev.h (ev_var rfl)) (od_ix (.tup _) (atI_map hl1))
        have v1 : Ev c (tOp (rIx c.K) (tVar 1) (tVar 5)) [some (.ro (ns.map D.int)), some (sheetD L), some (.str (textOf L)), none, some (sheetD L), some (.int (i : Int)), none] ([] ++ X) (.str l) := ev_opC (d1 := sheetD L) (ev_var rfl) (Ev.h (ev_var rfl)) (od_ix (.tup _) (atI_map hl1))
        refine q_when (b := !true || !deq (.str l) (.str l)) (by walk_at "ev") (fun h => ?_) (fun _ => ?_)
        · rw [deq_str] at h
          simp at h
        · exact q_next (sy_is0 (by walk_at "le") rfl)
      · refine q_asg (ev_show_sheet (ev_var rfl) hs) ?_
        refine q_ret (ev_is (d1 := .bl (true && (deq (.str (textOf L)) (.str (textOf L)) && deq (sheetD L) (sheetD L)))) ?_ ?_) q
        · have hsm : ∀ a ∈ textOf L, a < 1114112 := textOf_small hs
          have v : Ev c (tCall (spD c.K R_read_sheet) [] E0 (tCons (tVar 6) tNil)) [some (.ro (ns.map D.int)), some (sheetD L), some (.str (textOf L)), none, some (sheetD L), none, some (.str (textOf L))] [] (sheetD L) := ev_read_sheet (ev_var rfl) hs
          walk_at "ev"
        · rw [deq_str, deq_sheet]
          simp
end CW
namespace P_k01
open PySem L2 PyProof.Rows CW
def top (i : Nat) : Stmt := PySem.Challenge.pw_crosswright_k01_a_sheet_read.main.body.getD i (.Pass ⟨0, 0, 0, 0⟩)
abbrev s__law_cell_at : Stmt := top 10
abbrev N__law_cell_at : List Str := ["_law_script", "_law_k"]
theorem sc__law_cell_at : FnScope N__law_cell_at ["_law_script", "_law_k"] (defScope s__law_cell_at) := ⟨rfl, rfl, rfl, by decide +kernel, rfl, by decide +kernel, by decide +kernel⟩
abbrev s__law_mixed : Stmt := top 11
abbrev N__law_mixed : List Str := ["_law_script", "_law_k"]
theorem sc__law_mixed : FnScope N__law_mixed ["_law_script", "_law_k"] (defScope s__law_mixed) := ⟨rfl, rfl, rfl, by decide +kernel, rfl, by decide +kernel, by decide +kernel⟩
abbrev s__law_sheet : Stmt := top 12
abbrev N__law_sheet : List Str := ["_law_script", "_law_first", "_law_cell", "_law_size", "_law_letters", "_law_lines", "_law_k", "_law_line", "_law_j", "_law_number"]
theorem sc__law_sheet : FnScope N__law_sheet ["_law_script", "_law_first"] (defScope s__law_sheet) := ⟨rfl, rfl, rfl, by decide +kernel, rfl, by decide +kernel, by decide +kernel⟩
abbrev s_is_line : Stmt := top 6
abbrev N_is_line : List Str := ["line", "size", "sign"]
theorem sc_is_line : FnScope N_is_line ["line", "size"] (defScope s_is_line) := ⟨rfl, rfl, rfl, by decide +kernel, rfl, by decide +kernel, by decide +kernel⟩
abbrev s_read_sheet : Stmt := top 7
abbrev N_read_sheet : List Str := ["text", "lines", "number", "line"]
theorem sc_read_sheet : FnScope N_read_sheet ["text"] (defScope s_read_sheet) := ⟨rfl, rfl, rfl, by decide +kernel, rfl, by decide +kernel, by decide +kernel⟩
abbrev s_show_sheet : Stmt := top 8
abbrev N_show_sheet : List Str := ["sheet"]
theorem sc_show_sheet : FnScope N_show_sheet ["sheet"] (defScope s_show_sheet) := ⟨rfl, rfl, rfl, by decide +kernel, rfl, by decide +kernel, by decide +kernel⟩
abbrev s_law : Stmt := top 13
abbrev N_law : List Str := ["_law_script", "_law_due", "_law_text", "_law_line", "_law_got", "_law_k", "_law_back"]
theorem sc_law : FnScope N_law ["_law_script"] (defScope s_law) := ⟨rfl, rfl, rfl, by decide +kernel, rfl, by decide +kernel, by decide +kernel⟩
structure Facts (K : Fg) (mg : Str → Option Value) : Prop where
  d__law_cell_at : FunAt K mg "_law_cell_at" s__law_cell_at
  d__law_mixed : FunAt K mg "_law_mixed" s__law_mixed
  d__law_sheet : FunAt K mg "_law_sheet" s__law_sheet
  d_is_line : FunAt K mg "is_line" s_is_line
  d_read_sheet : FunAt K mg "read_sheet" s_read_sheet
  d_show_sheet : FunAt K mg "show_sheet" s_show_sheet
  d_law : FunAt K mg "law" s_law
  n_all : mg "all" = none
  n_enumerate : mg "enumerate" = none
  n_isinstance : mg "isinstance" = none
  n_len : mg "len" = none
  n_range : mg "range" = none
  n_str : mg "str" = none
  n_tuple : mg "tuple" = none
  c_MOST : ∃ u, mg "MOST" = some u ∧ RelV c_MOST u
  c_SIGNS : ∃ u, mg "SIGNS" = some u ∧ RelV c_SIGNS u
section
variable {P : Program} {w : World} {K : Fg} {mg : Str → Option Value} {base : Heap}
theorem ok__law_cell_at (T : Facts K mg)  : DefOk P w K mg base CX0 "_law_cell_at" ["_law_script", "_law_k"] 1 (spD K R__law_cell_at) :=
  def_ok T.d__law_cell_at sc__law_cell_at (fun _ _ _ _ _ _ us hl => match us, hl with | [_, _], _ => rfl) (len_D len_R__law_cell_at) (t__law_cell_at K)
    (fun cdv A outer s H E f hr => (pss_cons (ps_if (pt_cmpR op_uLt (pv 1) (pe_callB call_uLen (by rfl) T.n_len PySem.boot_len (pa_cons (pv 0) pa_nil)) (nomark _)) (pss_cons (ps_ret (pe_ix ix_seq (pv 0) (pv 1) (fun _ _ => rfl)))
      pss_nil) pss_nil)
      (pss_cons (ps_ret pe_int)
      pss_nil)))
    (body_D run__law_cell_at)
theorem ok__law_mixed (T : Facts K mg) (D__law_cell_at : DefOk P w K mg base CX0 "_law_cell_at" ["_law_script", "_law_k"] 1 (spD K R__law_cell_at)) : DefOk P w K mg base CX0 "_law_mixed" ["_law_script", "_law_k"] 2 (spD K R__law_mixed) :=
  def_ok T.d__law_mixed sc__law_mixed (fun _ _ _ _ _ _ us hl => match us, hl with | [_, _], _ => rfl) (len_D len_R__law_mixed) (t__law_mixed K)
    (fun cdv A outer s H E f hr => (pss_cons (ps_if (pt_cmpR op_uLt (pv 1) (pe_callB call_uLen (by rfl) T.n_len PySem.boot_len (pa_cons (pv 0) pa_nil)) (nomark _)) (pss_cons (ps_ret (pe_op op_uMod (pe_op op_uMul (pe_ix ix_seq (pv 0) (pv 1) (fun _ _ => rfl)) pe_int) pe_int))
      pss_nil) pss_nil)
      (pss_cons (ps_ret (pe_op op_uMod (pe_op op_uMul (pe_op op_uMod (pe_op op_uMul (pe_op op_uAdd (pe_op op_uAdd (pe_callU D__law_cell_at (hr.mono (by decide)) pass0 (pa_cons (pv 0) (pa_cons pe_int pa_nil))) (pe_op op_uMul (pv 1) (pv 1))) pe_int) pe_int) pe_int) pe_int) pe_int))
      pss_nil)))
    (body_D run__law_mixed)
theorem ok__law_sheet (T : Facts K mg) (D__law_cell_at : DefOk P w K mg base CX0 "_law_cell_at" ["_law_script", "_law_k"] 1 (spD K R__law_cell_at)) (D__law_mixed : DefOk P w K mg base CX0 "_law_mixed" ["_law_script", "_law_k"] 2 (spD K R__law_mixed)) : DefOk P w K mg base CX0 "_law_sheet" ["_law_script", "_law_first"] 3 (spD K R__law_sheet) :=
  def_ok T.d__law_sheet sc__law_sheet (fun _ _ _ _ _ _ us hl => match us, hl with | [_, _], _ => rfl) (len_D len_R__law_sheet) (t__law_sheet K)
    (fun cdv A outer s H E f hr => (pss_cons (ps_set (i := 2) sc__law_sheet.nd rfl (by first | exact Or.inl rfl | exact Or.inr rfl) (pe_callU D__law_cell_at (hr.mono (by decide)) pass0 (pa_cons (pv 0) (pa_cons pe_int pa_nil))))
      (pss_cons (ps_set (i := 3) sc__law_sheet.nd rfl (by first | exact Or.inl rfl | exact Or.inr rfl) (pe_op op_uAdd pe_int (pe_op op_uMod (pe_op op_uDiv (pv 2) pe_int) pe_int)))
      (pss_cons (ps_set (i := 4) sc__law_sheet.nd rfl (by first | exact Or.inl rfl | exact Or.inr rfl) (pe_strL (l := [97, 98, 99, 100, 101, 102, 103, 104, 105, 106, 107, 108, 109, 110, 111, 112, 113, 114, 115, 116, 117, 118, 119, 120, 121, 122]) (by decide +kernel)))
      (pss_cons (ps_set (i := 5) sc__law_sheet.nd rfl (by first | exact Or.inl rfl | exact Or.inr rfl) (pe_lst pa_nil))
      (pss_cons (ps_for PassesOwn.never rfl (pi_range1 (by rfl) T.n_range (pa_cons (pe_op op_uAdd pe_int (pe_op op_uMod (pv 2) pe_int)) pa_nil)) (pg_name (i := 6) sc__law_sheet.nd rfl (by first | exact Or.inl rfl | exact Or.inr rfl))
      (pss_cons (ps_set (i := 7) sc__law_sheet.nd rfl (by first | exact Or.inl rfl | exact Or.inr rfl) (pe_strL (l := []) (by decide +kernel)))
      (pss_cons (ps_for PassesOwn.never rfl (pi_range1 (by rfl) T.n_range (pa_cons (pv 3) pa_nil)) (pg_name (i := 8) sc__law_sheet.nd rfl (by first | exact Or.inl rfl | exact Or.inr rfl))
      (pss_cons (ps_set (i := 9) sc__law_sheet.nd rfl (by first | exact Or.inl rfl | exact Or.inr rfl) (pe_callU D__law_mixed (hr.mono (by decide)) pass0 (pa_cons (pv 0) (pa_cons (pe_op op_uAdd (pe_op op_uAdd (pv 1) (pe_op op_uMul (pv 6) (pv 3))) (pv 8)) pa_nil))))
      (pss_cons (ps_set (i := 7) sc__law_sheet.nd rfl (by first | exact Or.inl rfl | exact Or.inr rfl) (pe_op op_uAdd (pv 7) (pe_ix ix_seq (pe_lst (pa_cons (pe_strL (l := [46]) (by decide +kernel)) (pa_cons (pe_strL (l := [35]) (by decide +kernel)) (pa_cons (pe_ix ix_seq (pv 4) (pe_op op_uMod (pe_op op_uDiv (pv 9) pe_int) pe_int) (fun _ _ => rfl)) pa_nil)))) (pe_op op_uMod (pv 9) pe_int) (fun _ _ => rfl))))
      pss_nil)))
      (pss_cons (ps_expr (pe_bm PySem.F.plainAttrs_list PySem.F.slot_list_append PySem.F.type_list_append mt_append (pv 5) (pa_cons (pv 7) pa_nil)))
      pss_nil))))
      (pss_cons (ps_ret (pe_callTy call_uTuple (by rfl) T.n_tuple (by decide +kernel) (pa_cons (pv 5) pa_nil)))
      pss_nil)))))))
    (body_D run__law_sheet)
theorem ok_is_line (T : Facts K mg)  : DefOk P w K mg base CX0 "is_line" ["line", "size"] 1 (spD K R_is_line) :=
  def_ok T.d_is_line sc_is_line (fun _ _ _ _ _ _ us hl => match us, hl with | [_, _], _ => rfl) (len_D len_R_is_line) (t_is_line K)
    (fun cdv A outer s H E f hr => (pss_cons (ps_if (PW.pt (pw_or (pt_cmpR (op_uNe hr.units) (pe_callB call_uLen (by rfl) T.n_len PySem.boot_len (pa_cons (pv 0) pa_nil)) (pv 1) (nomark _)) (pw_or1 (pt_not (pt_chain op_uLe op_uLe pe_int (pv 1) (pe_globE T.c_MOST)))))) (pss_cons (ps_ret pe_bl)
      pss_nil) pss_nil)
      (pss_cons (ps_ret (pe_callB (cr_all rfl) (by rfl) T.n_all (by decide +kernel) (pa_cons (pe_lc (own := [(("sign" : Str), 2)]) (by rfl) sc_is_line.nd (pi_sq (pv 0)) (blkOk_by (own := [(("sign" : Str), 2)]) (N := N_is_line) (sc := defScope s_is_line) (by decide +kernel)) (fun _ _ _ _ _ => (pg_name (i := 2) sc_is_line.nd rfl (by first | exact Or.inl rfl | exact Or.inr rfl))) (fun _ _ _ _ _ => pts_nil) (fun _ _ _ _ _ => (pe_cmpR op_uIn (pv 2) (pe_globE T.c_SIGNS) (by rfl)))) pa_nil)))
      pss_nil)))
    (body_D run_is_line)
theorem ok_read_sheet (T : Facts K mg) (D_is_line : DefOk P w K mg base CX0 "is_line" ["line", "size"] 1 (spD K R_is_line)) : DefOk P w K mg base CX0 "read_sheet" ["text"] 2 (spD K R_read_sheet) :=
  def_ok T.d_read_sheet sc_read_sheet (fun _ _ _ _ _ _ us hl => match us, hl with | [_], _ => rfl) (len_D len_R_read_sheet) (t_read_sheet K)
    (fun cdv A outer s H E f hr => (pss_cons (ps_if (pt_not (pt_val (pe_callB call_uIsi (by rfl) T.n_isinstance (by decide +kernel) (pa_cons (pv 0) (pa_cons (pe_bltn (by rfl) T.n_str (by decide +kernel) rfl) pa_nil))))) (pss_cons ps_never
      pss_nil) pss_nil)
      (pss_cons (ps_set (i := 1) sc_read_sheet.nd rfl (by first | exact Or.inl rfl | exact Or.inr rfl) (pe_split (pv 0) (pe_strL (l := [10]) (by decide +kernel))))
      (pss_cons (ps_for PassesOwn.never rfl (pi_enum (by rfl) T.n_enumerate (pa_cons (pv 1) pa_nil)) (pg_tup (by rfl) (pgs_cons (pg_name (i := 2) sc_read_sheet.nd rfl (by first | exact Or.inl rfl | exact Or.inr rfl)) (pgs_cons (pg_name (i := 3) sc_read_sheet.nd rfl (by first | exact Or.inl rfl | exact Or.inr rfl)) pgs_nil)))
      (pss_cons (ps_if (PW.pt (pw_or (pt_cmpR (op_uEq hr.units) (pv 2) (pe_globE T.c_MOST) (nomark _)) (pw_or1 (pt_not (pt_val (pe_callU D_is_line (hr.mono (by decide)) pass0 (pa_cons (pv 3) (pa_cons (pe_callB call_uLen (by rfl) T.n_len PySem.boot_len (pa_cons (pe_ix ix_seq (pv 1) pe_int (fun _ _ => rfl)) pa_nil)) pa_nil)))))))) (pss_cons ps_never
      pss_nil) pss_nil)
      pss_nil))
      (pss_cons (ps_ret (pe_callTy call_uTuple (by rfl) T.n_tuple (by decide +kernel) (pa_cons (pv 1) pa_nil)))
      pss_nil)))))
    (body_D run_read_sheet)
theorem ok_show_sheet (T : Facts K mg)  : DefOk P w K mg base CX0 "show_sheet" ["sheet"] 1 (spD K R_show_sheet) :=
  def_ok T.d_show_sheet sc_show_sheet (fun _ _ _ _ _ _ us hl => match us, hl with | [_], _ => rfl) (len_D len_R_show_sheet) (t_show_sheet K)
    (fun cdv A outer s H E f hr => (pss_cons (ps_ret (pe_join (pe_strL (l := [10]) (by decide +kernel)) (pv 0)))
      pss_nil))
    (body_D run_show_sheet)
theorem ok_law {f : Addr} {fd : FuncData} (T : Facts K mg) (F : Fun K "law" "law" s_law f fd) (D__law_sheet : DefOk P w K mg base CX0 "_law_sheet" ["_law_script", "_law_first"] 3 (spD K R__law_sheet)) (D_read_sheet : DefOk P w K mg base CX0 "read_sheet" ["text"] 2 (spD K R_read_sheet)) (D_show_sheet : DefOk P w K mg base CX0 "show_sheet" ["sheet"] 1 (spD K R_show_sheet)) : FnOk P w K mg base CX0 4 f fd ["_law_script"] (spD K RLaw) :=
  fn_def F sc_law (len_D len_RLaw) (t_law K)
    (fun cdv A outer s H E f hr => (pss_cons (ps_set (i := 1) sc_law.nd rfl (by first | exact Or.inl rfl | exact Or.inr rfl) (pe_callU D__law_sheet (hr.mono (by decide)) pass0 (pa_cons (pv 0) (pa_cons pe_int pa_nil))))
      (pss_cons (ps_set (i := 2) sc_law.nd rfl (by first | exact Or.inl rfl | exact Or.inr rfl) (pe_ix ix_seq (pv 1) pe_int (fun _ _ => rfl)))
      (pss_cons (ps_for PassesOwn.never rfl (pi_sq (pe_slice sl_uSl (pv 1) (po_some pe_int) po_none)) (pg_name (i := 3) sc_law.nd rfl (by first | exact Or.inl rfl | exact Or.inr rfl))
      (pss_cons (ps_set (i := 2) sc_law.nd rfl (by first | exact Or.inl rfl | exact Or.inr rfl) (pe_op op_uAdd (pe_op op_uAdd (pv 2) (pe_strL (l := [10]) (by decide +kernel))) (pv 3)))
      pss_nil))
      (pss_cons (ps_set (i := 4) sc_law.nd rfl (by first | exact Or.inl rfl | exact Or.inr rfl) (pe_callU D_read_sheet (hr.mono (by decide)) pass0 (pa_cons (pv 2) pa_nil)))
      (pss_cons (ps_if (PW.pt (pw_or (pt_not (pt_val (pe_callB call_uIsi (by rfl) T.n_isinstance (by decide +kernel) (pa_cons (pv 4) (pa_cons (pe_bltn (by rfl) T.n_tuple (by decide +kernel) rfl) pa_nil))))) (pw_or1 (pt_cmpR (op_uNe hr.units) (pe_callB call_uLen (by rfl) T.n_len PySem.boot_len (pa_cons (pv 4) pa_nil)) (pe_callB call_uLen (by rfl) T.n_len PySem.boot_len (pa_cons (pv 1) pa_nil)) (nomark _))))) (pss_cons (ps_ret pe_bl)
      pss_nil) pss_nil)
      (pss_cons (ps_for PassesOwn.never rfl (pi_range1 (by rfl) T.n_range (pa_cons (pe_callB call_uLen (by rfl) T.n_len PySem.boot_len (pa_cons (pv 1) pa_nil)) pa_nil)) (pg_name (i := 5) sc_law.nd rfl (by first | exact Or.inl rfl | exact Or.inr rfl))
      (pss_cons (ps_if (PW.pt (pw_or (pt_not (pt_val (pe_callB call_uIsi (by rfl) T.n_isinstance (by decide +kernel) (pa_cons (pe_ix ix_seq (pv 4) (pv 5) (fun _ _ => rfl)) (pa_cons (pe_bltn (by rfl) T.n_str (by decide +kernel) rfl) pa_nil))))) (pw_or1 (pt_cmpR (op_uNe hr.units) (pe_ix ix_seq (pv 4) (pv 5) (fun _ _ => rfl)) (pe_ix ix_seq (pv 1) (pv 5) (fun _ _ => rfl)) (nomark _))))) (pss_cons (ps_ret pe_bl)
      pss_nil) pss_nil)
      pss_nil))
      (pss_cons (ps_set (i := 6) sc_law.nd rfl (by first | exact Or.inl rfl | exact Or.inr rfl) (pe_callU D_show_sheet (hr.mono (by decide)) pass0 (pa_cons (pv 1) pa_nil)))
      (pss_cons (ps_ret (pe_and (pe_callB call_uIsi (by rfl) T.n_isinstance (by decide +kernel) (pa_cons (pv 6) (pa_cons (pe_bltn (by rfl) T.n_str (by decide +kernel) rfl) pa_nil))) (pe_and (pe_cmpR (op_uEq hr.units) (pv 6) (pv 2) (nomark _)) (pe_one (pe_cmpR (op_uEq hr.units) (pe_callU D_read_sheet (hr.mono (by decide)) pass0 (pa_cons (pv 6) pa_nil)) (pv 1) (nomark _))))))
      pss_nil)))))))))
    (body_D run_law)
theorem all_ok (T : Facts K mg) {f : Addr} {fd : FuncData} (F : Fun K "law" "law" s_law f fd) : FnOk P w K mg base CX0 4 f fd ["_law_script"] (spD K RLaw) := by
  have D__law_cell_at := ok__law_cell_at (P := P) (w := w) (base := base) T 
  have D__law_mixed := ok__law_mixed (P := P) (w := w) (base := base) T D__law_cell_at
  have D__law_sheet := ok__law_sheet (P := P) (w := w) (base := base) T D__law_cell_at D__law_mixed
  have D_is_line := ok_is_line (P := P) (w := w) (base := base) T 
  have D_read_sheet := ok_read_sheet (P := P) (w := w) (base := base) T D_is_line
  have D_show_sheet := ok_show_sheet (P := P) (w := w) (base := base) T 
  exact ok_law T F D__law_sheet D_read_sheet D_show_sheet
end
theorem facts {K : Fg} {h : Heap} {mg : Str → Option Value} (X : K.In h) (G : h.Ns mainGlobals mg) {f0 f1 f2 f3 f4 f5 f6 : Addr} {od0 an0 od1 an1 od2 an2 od3 an3 od4 an4 od5 an5 od6 an6 : Option Addr} {sl0 sl1 sl2 sl3 sl4 sl5 sl6 : Array (Option Value)} {oc0 kV0 dc0 pm0 cd0 ct0 oc1 kV1 dc1 pm1 cd1 ct1 oc2 kV2 dc2 pm2 cd2 ct2 oc3 kV3 dc3 pm3 cd3 ct3 oc4 kV4 dc4 pm4 cd4 ct4 oc5 kV5 dc5 pm5 cd5 ct5 oc6 kV6 dc6 pm6 cd6 ct6 : Value} {tk0 tk1 : Tok}
    (a0 : PySem.W.nsIn K mainGlobals "_law_cell_at" = some (some (.ref f0))) (l0 : K.lookup f0 = some ⟨oc0, od0, .func (PySem.W.fnOf "_law_cell_at" "_law_cell_at" (defArgs s__law_cell_at) (defBody s__law_cell_at) (defScope s__law_cell_at) .none kV0 dc0 pm0 an0 cd0 ct0), sl0⟩) (e0 : PySem.W.codeIn K cd0 "_law_cell_at" = true) (k0 : PySem.W.keepIn K (.ref f0) = true)
    (a1 : PySem.W.nsIn K mainGlobals "_law_mixed" = some (some (.ref f1))) (l1 : K.lookup f1 = some ⟨oc1, od1, .func (PySem.W.fnOf "_law_mixed" "_law_mixed" (defArgs s__law_mixed) (defBody s__law_mixed) (defScope s__law_mixed) .none kV1 dc1 pm1 an1 cd1 ct1), sl1⟩) (e1 : PySem.W.codeIn K cd1 "_law_mixed" = true) (k1 : PySem.W.keepIn K (.ref f1) = true)
    (a2 : PySem.W.nsIn K mainGlobals "_law_sheet" = some (some (.ref f2))) (l2 : K.lookup f2 = some ⟨oc2, od2, .func (PySem.W.fnOf "_law_sheet" "_law_sheet" (defArgs s__law_sheet) (defBody s__law_sheet) (defScope s__law_sheet) .none kV2 dc2 pm2 an2 cd2 ct2), sl2⟩) (e2 : PySem.W.codeIn K cd2 "_law_sheet" = true) (k2 : PySem.W.keepIn K (.ref f2) = true)
    (a3 : PySem.W.nsIn K mainGlobals "is_line" = some (some (.ref f3))) (l3 : K.lookup f3 = some ⟨oc3, od3, .func (PySem.W.fnOf "is_line" "is_line" (defArgs s_is_line) (defBody s_is_line) (defScope s_is_line) .none kV3 dc3 pm3 an3 cd3 ct3), sl3⟩) (e3 : PySem.W.codeIn K cd3 "is_line" = true) (k3 : PySem.W.keepIn K (.ref f3) = true)
    (a4 : PySem.W.nsIn K mainGlobals "read_sheet" = some (some (.ref f4))) (l4 : K.lookup f4 = some ⟨oc4, od4, .func (PySem.W.fnOf "read_sheet" "read_sheet" (defArgs s_read_sheet) (defBody s_read_sheet) (defScope s_read_sheet) .none kV4 dc4 pm4 an4 cd4 ct4), sl4⟩) (e4 : PySem.W.codeIn K cd4 "read_sheet" = true) (k4 : PySem.W.keepIn K (.ref f4) = true)
    (a5 : PySem.W.nsIn K mainGlobals "show_sheet" = some (some (.ref f5))) (l5 : K.lookup f5 = some ⟨oc5, od5, .func (PySem.W.fnOf "show_sheet" "show_sheet" (defArgs s_show_sheet) (defBody s_show_sheet) (defScope s_show_sheet) .none kV5 dc5 pm5 an5 cd5 ct5), sl5⟩) (e5 : PySem.W.codeIn K cd5 "show_sheet" = true) (k5 : PySem.W.keepIn K (.ref f5) = true)
    (a6 : PySem.W.nsIn K mainGlobals "law" = some (some (.ref f6))) (l6 : K.lookup f6 = some ⟨oc6, od6, .func (PySem.W.fnOf "law" "law" (defArgs s_law) (defBody s_law) (defScope s_law) .none kV6 dc6 pm6 an6 cd6 ct6), sl6⟩) (e6 : PySem.W.codeIn K cd6 "law" = true) (k6 : PySem.W.keepIn K (.ref f6) = true)
    (b0 : PySem.W.nsIn K mainGlobals "all" = some none)
    (b1 : PySem.W.nsIn K mainGlobals "enumerate" = some none)
    (b2 : PySem.W.nsIn K mainGlobals "isinstance" = some none)
    (b3 : PySem.W.nsIn K mainGlobals "len" = some none)
    (b4 : PySem.W.nsIn K mainGlobals "range" = some none)
    (b5 : PySem.W.nsIn K mainGlobals "str" = some none)
    (b6 : PySem.W.nsIn K mainGlobals "tuple" = some none)
    (g0 : PySem.W.nsIn K mainGlobals "MOST" = some (some (.int 9 tk0)))
    (g1 : PySem.W.nsIn K mainGlobals "SIGNS" = some (some (.str "#.abcdefghijklmnopqrstuvwxyz" tk1))) : Facts K mg where
  d__law_cell_at := ⟨f0, _, PySem.W.mg_of X G a0, fun_mk l0 e0 k0⟩
  d__law_mixed := ⟨f1, _, PySem.W.mg_of X G a1, fun_mk l1 e1 k1⟩
  d__law_sheet := ⟨f2, _, PySem.W.mg_of X G a2, fun_mk l2 e2 k2⟩
  d_is_line := ⟨f3, _, PySem.W.mg_of X G a3, fun_mk l3 e3 k3⟩
  d_read_sheet := ⟨f4, _, PySem.W.mg_of X G a4, fun_mk l4 e4 k4⟩
  d_show_sheet := ⟨f5, _, PySem.W.mg_of X G a5, fun_mk l5 e5 k5⟩
  d_law := ⟨f6, _, PySem.W.mg_of X G a6, fun_mk l6 e6 k6⟩
  n_all := PySem.W.mg_none_of X G b0
  n_enumerate := PySem.W.mg_none_of X G b1
  n_isinstance := PySem.W.mg_none_of X G b2
  n_len := PySem.W.mg_none_of X G b3
  n_range := PySem.W.mg_none_of X G b4
  n_str := PySem.W.mg_none_of X G b5
  n_tuple := PySem.W.mg_none_of X G b6
  c_MOST := ⟨_, PySem.W.mg_of X G g0, ⟨_, by first | rfl | (show Value.str _ _ = Value.str _ _; congr 1; decide +kernel)⟩⟩
  c_SIGNS := ⟨_, PySem.W.mg_of X G g1, ⟨_, by first | rfl | (show Value.str _ _ = Value.str _ _; congr 1; decide +kernel)⟩⟩
theorem all_mk {P : Program} {w : World} {K : Fg} {h : Heap} {mg : Str → Option Value} {fa : Addr} (hfa : mg "law" = some (.ref fa)) (T : Facts K mg) :
    ∃ fd : FuncData, (∀ (s : Shared) (u : Value), BindsTo s fd ⟨[u], []⟩ [("_law_script", u)]) ∧ ∀ base : Heap, K.In base → base.Ns mainGlobals mg → FnOk P w K mg base CX0 4 fa fd ["_law_script"] (spD K RLaw) := by
  obtain ⟨f, fd, hm, F⟩ := T.d_law
  have e : fa = f := Value.ref.inj (Option.some.inj (hfa.symm.trans hm))
  subst e
  refine ⟨fd, fun s u => ?_, fun base _ _ => all_ok T F⟩
  obtain ⟨oc, od, kV, doc, pm, an, cdv, ct, osl, rfl, lk, hcd⟩ := F.ex
  exact .of_eq rfl
end P_k01
open PySem PySem.W PyProof.Rows in
set_option maxRecDepth 100000 in
set_option maxHeartbeats 0 in
theorem PySem.Challenge.cw_crosswright_k01_a_sheet_read_holds : PySem.Challenge.rw_crosswright_k01_a_sheet_read.Holds := by
  w_on; o_law; k_head; (case hw => w_witness2)
  k_fill
  refine CW.law_walk (l := PySem.Challenge.rw_crosswright_k01_a_sheet_read) (k := 4) (x := "_law_script") rfl rfl ⟨rfl, by decide, by decide⟩ (fun w h Y => PySem.W.kIn_of Y) ?F
  case F =>
    intro w mg fa h KX G hmg
    refine' P_k01.all_mk (h := h) hmg (P_k01.facts KX G ?xxa0 ?xxl0 ?xxe0 ?xxk0 ?xxa1 ?xxl1 ?xxe1 ?xxk1 ?xxa2 ?xxl2 ?xxe2 ?xxk2 ?xxa3 ?xxl3 ?xxe3 ?xxk3 ?xxa4 ?xxl4 ?xxe4 ?xxk4 ?xxa5 ?xxl5 ?xxe5 ?xxk5 ?xxa6 ?xxl6 ?xxe6 ?xxk6 ?xxb0 ?xxb1 ?xxb2 ?xxb3 ?xxb4 ?xxb5 ?xxb6 ?xxg0 ?xxg1)
    (case xxa0 => k_is)
    (case xxl0 => k_is)
    (case xxe0 => k_is)
    (case xxk0 => k_is)
    (case xxa1 => k_is)
    (case xxl1 => k_is)
    (case xxe1 => k_is)
    (case xxk1 => k_is)
    (case xxa2 => k_is)
    (case xxl2 => k_is)
    (case xxe2 => k_is)
    (case xxk2 => k_is)
    (case xxa3 => k_is)
    (case xxl3 => k_is)
    (case xxe3 => k_is)
    (case xxk3 => k_is)
    (case xxa4 => k_is)
    (case xxl4 => k_is)
    (case xxe4 => k_is)
    (case xxk4 => k_is)
    (case xxa5 => k_is)
    (case xxl5 => k_is)
    (case xxe5 => k_is)
    (case xxk5 => k_is)
    (case xxa6 => k_is)
    (case xxl6 => k_is)
    (case xxe6 => k_is)
    (case xxk6 => k_is)
    (case xxb0 => k_is)
    (case xxb1 => k_is)
    (case xxb2 => k_is)
    (case xxb3 => k_is)
    (case xxb4 => k_is)
    (case xxb5 => k_is)
    (case xxb6 => k_is)
    (case xxg0 => k_is)
    (case xxg1 => k_is)
#print axioms PySem.Challenge.cw_crosswright_k01_a_sheet_read_holds

