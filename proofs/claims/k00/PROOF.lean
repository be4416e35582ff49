import PyProof.Rows.All
import Wide.All
import OpenK.AllK
import Wide.FinOn
import HandS.ForMost
import HandS.Exc
import HandS.Evl
import HandS.ExcOwn
import HandS.CallSlots
import HandS.Defaults
import HandS.Wide
import HandS.TupAny
import HandS.TupMul
import HandS.IsInst
import HandS.Zip
import HandS.Style
import HandS.RaiseMore
import HandS.Star
import KE.GoesMore
import KE.GoesEnum
import KE.KStateDown
import HandS.More
import HandS.MakeKwOnly
import HandS.Head0
import HandS.Head1
import HandS.Head2
import HandS.HeadEnd
import HandS.HeadHook1
import HandS.HeadHook2
import PySem.Challenge.RW_slopewords_k00_whole_polynomials
set_option Elab.async false
set_option linter.all false
set_option maxRecDepth 100000
set_option maxHeartbeats 0
set_option autoImplicit false
namespace DS
open PySem PySem.Spec PyProof.Rows L2

/-- data: what a value stands for, as a tree; hnd: a list of the def's own that may still change -/
inductive D where
  | non | bl (b : Bool) | int (i : Int) | str (s : Str) | ty (n : String) | glo (x : Str)
  | tup (xs : List D) | lst (xs : List D) | scr (xs : List D) | hnd (i : Nat) | dic (kvs : List (Str × D)) | obj (c : Str) (fs : List D)

inductive Cell where
  | lst (xs : List D)
  | dead
abbrev Sto := List Cell
structure Exc where
  cls : D
  arg : Option (Str × D)
inductive Res (a : Type) where
  | ok (x : a) (st : Sto)
  | ex (c : Exc) (st : Sto)
  | stk
def Res.bind {a b : Type} (r : Res a) (k : a → Sto → Res b) : Res b := match r with
  | .ok x st => k x st
  | .ex c st => .ex c st
  | .stk => .stk
def Res.ofO {a : Type} (o : Option a) (st : Sto) : Res a := match o with
  | some x => .ok x st
  | none => .stk

/-- what the abstract heap is: the part that stays, the addresses of the changing lists, all of it -/
structure Wd where
  I : Hp
  ph : List Addr
  H : Hp
/-- the module: the written part, its names -/
structure Md where
  K : PySem.W.Frag
  mg : Str → Option Value

inductive Rep (G : Md) (I : Hp) (ph : List Addr) : V → D → Prop
  | non : Rep G I ph .non .non
  | bl (b : Bool) : Rep G I ph (.bl b) (.bl b)
  | int (i : Int) : Rep G I ph (.int i) (.int i)
  | str (s : Str) : Rep G I ph (.str s) (.str s)
  | ty (n : String) : Rep G I ph (.ty n) (.ty n)
  | glo {x : Str} {a : Addr} : G.mg x = some (.ref a) → Rep G I ph (.ref a) (.glo x)
  | hnd {i : Nat} {a : Addr} : ph[i]? = some a → Rep G I ph (.ref a) (.hnd i)
  | tup {a : Addr} {vs : List V} {ds : List D} : SqT G.K I a vs → vs.length = ds.length → (∀ (i : Nat) v d, vs[i]? = some v → ds[i]? = some d → Rep G I ph v d) → Rep G I ph (.ref a) (.tup ds)
  | lst {a : Addr} {vs : List V} {ds : List D} : I a = some (.lst vs) → vs.length = ds.length → (∀ (i : Nat) v d, vs[i]? = some v → ds[i]? = some d → Rep G I ph v d) → Rep G I ph (.ref a) (.lst ds)
  | scr {a : Addr} {vs : List V} {ds : List D} : SqL G.K I a vs → vs.length = ds.length → (∀ (i : Nat) v d, vs[i]? = some v → ds[i]? = some d → Rep G I ph v d) → Rep G I ph (.ref a) (.scr ds)
  | dic {a : Addr} {kvs : List (Key × V)} {kds : List (Str × D)} : I a = some (.dK kvs) → kvs.length = kds.length →
      (∀ (i : Nat) p q, kvs[i]? = some p → kds[i]? = some q → p.1 = .inr q.1) → (∀ (i : Nat) p q, kvs[i]? = some p → kds[i]? = some q → Rep G I ph p.2 q.2) → Rep G I ph (.ref a) (.dic kds)
/-- item by item -/
def Reps (G : Md) (I : Hp) (ph : List Addr) (vs : List V) (ds : List D) : Prop := vs.length = ds.length ∧ ∀ (i : Nat) v d, vs[i]? = some v → ds[i]? = some d → Rep G I ph v d

section
variable {G : Md} {I I' : Hp} {ph ph' : List Addr} {v : V} {d : D} {vs ws : List V} {ds es : List D}
def Px (ph ph' : List Addr) : Prop := ∀ (i : Nat) (a : Addr), ph[i]? = some a → ph'[i]? = some a
theorem Px.refl : Px ph ph := fun _ _ h => h
theorem Px.trans {p q r : List Addr} (a : Px p q) (b : Px q r) : Px p r := fun i x h => b i x (a i x h)
theorem Px.app (p t : List Addr) : Px p (p ++ t) := fun i a h => by
  rw [List.getElem?_append_left (List.getElem?_eq_some_iff.mp h).1]
  exact h
theorem Rep.mono (e : Evl.Ex I I') (px : Px ph ph') (h : Rep G I ph v d) : Rep G I' ph' v d := by
  induction h with
  | non => exact .non
  | bl b => exact .bl b
  | int i => exact .int i
  | str s => exact .str s
  | ty n => exact .ty n
  | glo h => exact .glo h
  | hnd h => exact .hnd (px _ _ h)
  | tup h1 h2 _ ih => exact .tup (Evl.ex_t e h1) h2 ih
  | lst h1 h2 _ ih => exact .lst (e _ _ h1) h2 ih
  | scr h1 h2 _ ih => exact .scr (Evl.ex_l e h1) h2 ih
  | dic h1 h2 h3 _ ih => exact .dic (e _ _ h1) h2 h3 ih
theorem Reps.mono (e : Evl.Ex I I') (px : Px ph ph') (h : Reps G I ph vs ds) : Reps G I' ph' vs ds := ⟨h.1, fun i v d a b => (h.2 i v d a b).mono e px⟩
theorem Reps.nil : Reps G I ph [] [] := ⟨rfl, fun i v d h => by simp at h⟩
theorem Reps.cons (h : Rep G I ph v d) (r : Reps G I ph vs ds) : Reps G I ph (v :: vs) (d :: ds) := by
  refine ⟨by simp [r.1], fun i x y a b => ?_⟩
  cases i with
  | zero =>
    simp at a b
    rw [← a, ← b]
    exact h
  | succ i => exact r.2 i x y (by simpa using a) (by simpa using b)
theorem Reps.inv_cons {ds' : List D} (h : Reps G I ph (v :: vs) ds') : ∃ d ds, ds' = d :: ds ∧ Rep G I ph v d ∧ Reps G I ph vs ds := by
  cases ds' with
  | nil => exact absurd h.1 (by simp)
  | cons d ds => exact ⟨d, ds, rfl, h.2 0 v d rfl rfl, by simpa using h.1, fun i x y a b => h.2 (i + 1) x y (by simpa using a) (by simpa using b)⟩
theorem Reps.inv_cons' {vs' : List V} (h : Reps G I ph vs' (d :: ds)) : ∃ v vs, vs' = v :: vs ∧ Rep G I ph v d ∧ Reps G I ph vs ds := by
  cases vs' with
  | nil => exact absurd h.1 (by simp)
  | cons v vs => exact ⟨v, vs, rfl, h.2 0 v d rfl rfl, by simpa using h.1, fun i x y a b => h.2 (i + 1) x y (by simpa using a) (by simpa using b)⟩
theorem Reps.inv_nil' {vs' : List V} (h : Reps G I ph vs' []) : vs' = [] := List.length_eq_zero_iff.mp h.1
theorem Reps.get (h : Reps G I ph vs ds) {i : Nat} (e : ds[i]? = some d) : ∃ v, vs[i]? = some v ∧ Rep G I ph v d := by
  have hi : i < vs.length := by rw [h.1]; exact (List.getElem?_eq_some_iff.mp e).1
  exact ⟨vs[i], List.getElem?_eq_getElem hi, h.2 i _ _ (List.getElem?_eq_getElem hi) e⟩
theorem Reps.none (h : Reps G I ph vs ds) {i : Nat} (e : ds[i]? = none) : vs[i]? = none := by
  rw [List.getElem?_eq_none_iff] at e ⊢
  rw [h.1]
  exact e
theorem Reps.append (h : Reps G I ph vs ds) (k : Reps G I ph ws es) : Reps G I ph (vs ++ ws) (ds ++ es) := by
  refine ⟨by simp [h.1, k.1], fun i x y a b => ?_⟩
  by_cases hi : i < vs.length
  · rw [List.getElem?_append_left hi] at a
    rw [List.getElem?_append_left (by rw [← h.1]; exact hi)] at b
    exact h.2 i x y a b
  · rw [List.getElem?_append_right (by omega)] at a
    rw [List.getElem?_append_right (by rw [← h.1]; omega)] at b
    rw [← h.1] at b
    exact k.2 _ x y a b
theorem Reps.take (n : Nat) (h : Reps G I ph vs ds) : Reps G I ph (vs.take n) (ds.take n) := by
  refine ⟨by simp [h.1], fun i x y a b => ?_⟩
  rw [List.getElem?_take] at a b
  split at a
  · rename_i q
    rw [if_pos q] at b
    exact h.2 i x y a b
  · cases a
theorem Reps.drop (n : Nat) (h : Reps G I ph vs ds) : Reps G I ph (vs.drop n) (ds.drop n) := by
  refine ⟨by simp [h.1], fun i x y a b => ?_⟩
  rw [List.getElem?_drop] at a b
  exact h.2 _ x y a b
theorem Reps.set (n : Nat) (h : Reps G I ph vs ds) (r : Rep G I ph v d) : Reps G I ph (vs.set n v) (ds.set n d) := by
  refine ⟨by simp [h.1], fun i x y a b => ?_⟩
  rw [List.getElem?_set] at a b
  by_cases hn : n = i
  · subst hn
    rw [if_pos rfl] at a b
    split at a
    · rename_i q
      rw [← h.1, if_pos q] at b
      simp at a b
      rw [← a, ← b]
      exact r
    · cases a
  · rw [if_neg hn] at a b
    exact h.2 i x y a b
theorem Reps.reverse (h : Reps G I ph vs ds) : Reps G I ph vs.reverse ds.reverse := by
  refine ⟨by simp [h.1], fun i x y a b => ?_⟩
  have hi : i < vs.length := by have := (List.getElem?_eq_some_iff.mp a).1; simpa using this
  have hj : i < ds.length := by rw [← h.1]; exact hi
  rw [List.getElem?_reverse hi] at a
  rw [List.getElem?_reverse hj, ← h.1] at b
  exact h.2 _ x y a b
theorem Reps.replicate (n : Nat) (r : Rep G I ph v d) : Reps G I ph (List.replicate n v) (List.replicate n d) := by
  refine ⟨by simp, fun i x y a b => ?_⟩
  rw [List.getElem?_replicate] at a b
  split at a
  · rename_i q
    rw [if_pos q] at b
    simp at a b
    rw [← a, ← b]
    exact r
  · cases a
theorem Rep.tup' {a : Addr} (h1 : SqT G.K I a vs) (h : Reps G I ph vs ds) : Rep G I ph (.ref a) (.tup ds) := .tup h1 h.1 h.2
theorem Rep.lst' {a : Addr} (h1 : I a = some (.lst vs)) (h : Reps G I ph vs ds) : Rep G I ph (.ref a) (.lst ds) := .lst h1 h.1 h.2
theorem Rep.tup_inv (h : Rep G I ph v (.tup ds)) : ∃ a vs, v = .ref a ∧ SqT G.K I a vs ∧ Reps G I ph vs ds := by
  cases h with
  | tup h1 h2 h3 => exact ⟨_, _, rfl, h1, h2, h3⟩
theorem Rep.lst_inv (h : Rep G I ph v (.lst ds)) : ∃ a vs, v = .ref a ∧ I a = some (.lst vs) ∧ Reps G I ph vs ds := by
  cases h with
  | lst h1 h2 h3 => exact ⟨_, _, rfl, h1, h2, h3⟩
theorem Rep.hnd_inv {i : Nat} (h : Rep G I ph v (.hnd i)) : ∃ a, v = .ref a ∧ ph[i]? = some a := by
  cases h with
  | hnd h1 => exact ⟨_, rfl, h1⟩
end

/-! ### the state -/
def CellOk (G : Md) (w : Wd) (a : Addr) : Cell → Prop
  | .lst xs => w.I a = none ∧ ∃ vs, w.H a = some (.lst vs) ∧ Reps G w.I w.ph vs xs
  | .dead => ∃ o, w.H a = some o
structure Rel (G : Md) (w : Wd) (st : Sto) : Prop where
  sub : Evl.Ex w.I w.H
  len : w.ph.length = st.length
  nd : w.ph.Nodup
  cel : ∀ (i : Nat) (a : Addr) (c : Cell), w.ph[i]? = some a → st[i]? = some c → CellOk G w a c
structure Step (w w' : Wd) : Prop where
  im : Evl.Ex w.I w'.I
  px : Px w.ph w'.ph
  newI : ∀ a o, w'.I a = some o → w.I a = some o ∨ w.H a = none ∨ a ∈ w.ph
  newP : ∀ a ∈ w'.ph, a ∈ w.ph ∨ w.H a = none
  keep : ∀ a o, w.H a = some o → a ∉ w.ph → w'.H a = some o
  live : ∀ a, w'.H a = none → w.H a = none
theorem Step.refl (w : Wd) : Step w w := ⟨Evl.Ex.refl _, Px.refl, fun _ _ h => .inl h, fun _ h => .inl h, fun _ _ h _ => h, fun _ h => h⟩
theorem Step.trans {a b c : Wd} (p : Step a b) (q : Step b c) : Step a c where
  im := p.im.trans q.im
  px := p.px.trans q.px
  newI := fun x o h => by
    rcases q.newI x o h with h | h | h
    · exact p.newI x o h
    · exact .inr (.inl (p.live x h))
    · rcases p.newP x h with z | z
      · exact .inr (.inr z)
      · exact .inr (.inl z)
  newP := fun x h => by
    rcases q.newP x h with h | h
    · exact p.newP x h
    · exact .inr (p.live x h)
  keep := fun x o h n => by
    refine q.keep x o (p.keep x o h n) fun hb => ?_
    rcases p.newP x hb with z | z
    · exact n z
    · rw [h] at z; cases z
  live := fun x h => p.live x (q.live x h)
section
variable {G : Md} {w w' : Wd} {st : Sto} {v : V} {d : D} {vs : List V} {ds : List D}
theorem Rep.step (s : Step w w') (h : Rep G w.I w.ph v d) : Rep G w'.I w'.ph v d := h.mono s.im s.px
theorem Reps.step (s : Step w w') (h : Reps G w.I w.ph vs ds) : Reps G w'.I w'.ph vs ds := h.mono s.im s.px
/-- a new object that stays -/
def Wd.addI (w : Wd) (p : Addr) (o : HO) : Wd := ⟨upd w.I p o, w.ph, upd w.H p o⟩
theorem Rel.notIn (r : Rel G w st) {p : Addr} (h : w.H p = none) : p ∉ w.ph := fun hm => by
  obtain ⟨i, hi, e⟩ := List.mem_iff_getElem.mp hm
  have hs : i < st.length := by rw [← r.len]; exact hi
  have c := r.cel i p st[i] (by rw [List.getElem?_eq_getElem hi, e]) (List.getElem?_eq_getElem hs)
  cases q : st[i] with
  | lst xs =>
    rw [q] at c
    obtain ⟨_, vs, e, _⟩ := c
    rw [h] at e
    cases e
  | dead =>
    rw [q] at c
    obtain ⟨o, e⟩ := c
    rw [h] at e
    cases e
theorem Rel.noI (r : Rel G w st) {p : Addr} (h : w.H p = none) : w.I p = none := Evl.fresh_back r.sub h
theorem step_addI (r : Rel G w st) {p : Addr} {o : HO} (h : w.H p = none) : Step w (w.addI p o) where
  im := Evl.Ex.new (r.noI h)
  px := Px.refl
  newI := fun a u e => by
    by_cases ha : a = p
    · rw [ha]; exact .inr (.inl h)
    · exact .inl (by rw [show (w.addI p o).I = upd w.I p o from rfl, upd_ne ha] at e; exact e)
  newP := fun a ha => .inl ha
  keep := fun a u e _ => Evl.Ex.new h a u e
  live := fun a e => by
    by_cases ha : a = p
    · rw [ha]; exact h
    · rw [show (w.addI p o).H = upd w.H p o from rfl, upd_ne ha] at e; exact e
theorem Rel.addI (r : Rel G w st) {p : Addr} {o : HO} (h : w.H p = none) : Rel G (w.addI p o) st where
  sub := fun a u e => by
    by_cases ha : a = p
    · rw [ha] at e ⊢
      rw [show (w.addI p o).I = upd w.I p o from rfl, upd_same] at e
      rw [show (w.addI p o).H = upd w.H p o from rfl, upd_same]
      exact e
    · rw [show (w.addI p o).I = upd w.I p o from rfl, upd_ne ha] at e
      rw [show (w.addI p o).H = upd w.H p o from rfl, upd_ne ha]
      exact r.sub a u e
  len := r.len
  nd := r.nd
  cel := fun i a c hi hc => by
    have ha : a ∈ w.ph := List.mem_of_getElem? hi
    have hn : a ≠ p := fun e => r.notIn h (e ▸ ha)
    have k := r.cel i a c hi hc
    cases c with
    | lst xs =>
      obtain ⟨e0, vs, e, q⟩ := k
      exact ⟨by rw [show (w.addI p o).I = upd w.I p o from rfl, upd_ne hn]; exact e0, vs, by rw [show (w.addI p o).H = upd w.H p o from rfl, upd_ne hn]; exact e, q.mono (Evl.Ex.new (r.noI h)) Px.refl⟩
    | dead =>
      obtain ⟨u, e⟩ := k
      exact ⟨u, by rw [show (w.addI p o).H = upd w.H p o from rfl, upd_ne hn]; exact e⟩
/-- a new list that may change -/
def Wd.addP (w : Wd) (p : Addr) : Wd := ⟨w.I, w.ph ++ [p], w.H⟩
/-- w1: what came, with the new list at p, which nobody holds yet -/
theorem Rel.addP (r : Rel G w st) {p : Addr} {xs : List D} (hp : p ∉ w.ph) (hI : w.I p = none) (hH : w.H p = some (.lst vs)) (q : Reps G w.I w.ph vs xs) : Rel G (w.addP p) (st ++ [.lst xs]) where
  sub := r.sub
  len := by simp [Wd.addP, r.len]
  nd := by
    show (w.ph ++ [p]).Nodup
    rw [List.nodup_append]
    refine ⟨r.nd, by simp, fun a ha b hb e => ?_⟩
    simp at hb
    exact hp (hb ▸ e ▸ ha)
  cel := fun i a c hi hc => by
    have hi : (w.ph ++ [p])[i]? = some a := hi
    by_cases hl : i < w.ph.length
    · rw [List.getElem?_append_left hl] at hi
      rw [List.getElem?_append_left (by rw [← r.len]; exact hl)] at hc
      have k := r.cel i a c hi hc
      cases c with
      | lst ys =>
        obtain ⟨e0, us, e, z⟩ := k
        exact ⟨e0, us, e, z.mono (Evl.Ex.refl _) (Px.app _ _)⟩
      | dead => exact k
    · have hl2 : i = w.ph.length := by
        have := (List.getElem?_eq_some_iff.mp hi).1
        simp at this
        omega
      subst hl2
      rw [List.getElem?_append_right (Nat.le_refl _)] at hi
      rw [r.len, List.getElem?_append_right (Nat.le_refl _)] at hc
      simp at hi hc
      rw [← hi, ← hc]
      exact ⟨hI, vs, hH, q.mono (Evl.Ex.refl _) (Px.app _ _)⟩
/-- the list i is changed -/
def Wd.put (w : Wd) (a : Addr) (vs : List V) : Wd := ⟨w.I, w.ph, upd w.H a (.lst vs)⟩
theorem step_put {a : Addr} (ha : a ∈ w.ph) : Step w (w.put a vs) where
  im := Evl.Ex.refl _
  px := Px.refl
  newI := fun _ _ h => .inl h
  newP := fun _ h => .inl h
  keep := fun b o h n => by
    have hb : b ≠ a := fun e => n (by rw [e]; exact ha)
    show upd w.H a (.lst vs) b = some o
    rw [upd_ne hb]
    exact h
  live := fun b h => by
    by_cases hb : b = a
    · rw [show (w.put a vs).H = upd w.H a (.lst vs) from rfl, hb, upd_same] at h
      cases h
    · rw [show (w.put a vs).H = upd w.H a (.lst vs) from rfl, upd_ne hb] at h
      exact h
theorem Rel.put (r : Rel G w st) {i : Nat} {a : Addr} {xs : List D} (hi : w.ph[i]? = some a) (hI : w.I a = none) (q : Reps G w.I w.ph vs xs) : Rel G (w.put a vs) (st.set i (.lst xs)) where
  sub := fun b u e => by
    have ha : a ∈ w.ph := List.mem_of_getElem? hi
    have e : w.I b = some u := e
    have hb : b ≠ a := fun z => by rw [z, hI] at e; cases e
    show upd w.H a (.lst vs) b = some u
    rw [upd_ne hb]
    exact r.sub b u e
  len := by simp [Wd.put, r.len]
  nd := r.nd
  cel := fun j b c hj hc => by
    have hj : w.ph[j]? = some b := hj
    by_cases e : i = j
    · subst e
      rw [hi] at hj
      cases hj
      have hl : i < st.length := by rw [← r.len]; exact (List.getElem?_eq_some_iff.mp hi).1
      rw [List.getElem?_set_self hl] at hc
      cases hc
      exact ⟨hI, vs, upd_same, q⟩
    · rw [List.getElem?_set_ne e] at hc
      have hb : b ≠ a := fun z => by
        subst z
        obtain ⟨h1, e1⟩ := List.getElem?_eq_some_iff.mp hi
        obtain ⟨h2, e2⟩ := List.getElem?_eq_some_iff.mp hj
        exact e ((List.getElem_inj r.nd).mp (e1.trans e2.symm))
      have k := r.cel j b c hj hc
      cases c with
      | lst ys =>
        obtain ⟨e0, us, e, z⟩ := k
        exact ⟨e0, us, by show upd w.H a (.lst vs) b = some _; rw [upd_ne hb]; exact e, z⟩
      | dead =>
        obtain ⟨u, e⟩ := k
        exact ⟨u, by show upd w.H a (.lst vs) b = some _; rw [upd_ne hb]; exact e⟩
end

section
variable {G : Md} {w : Wd} {st : Sto}
/-- the list i stays from now on as it is -/
def Wd.frz (w : Wd) (a : Addr) (vs : List V) : Wd := ⟨upd w.I a (.lst vs), w.ph, w.H⟩
theorem step_frz {a : Addr} {vs : List V} (ha : a ∈ w.ph) (hI : w.I a = none) : Step w (w.frz a vs) where
  im := Evl.Ex.new hI
  px := Px.refl
  newI := fun b o h => by
    by_cases hb : b = a
    · rw [hb]; exact .inr (.inr ha)
    · exact .inl (by rw [show (w.frz a vs).I = upd w.I a (.lst vs) from rfl, upd_ne hb] at h; exact h)
  newP := fun _ h => .inl h
  keep := fun _ _ h _ => h
  live := fun _ h => h
theorem Rel.frz (r : Rel G w st) {i : Nat} {a : Addr} {vs : List V} {xs : List D} (hi : w.ph[i]? = some a) (hs : st[i]? = some (.lst xs)) (h : w.H a = some (.lst vs)) (hI : w.I a = none) : Rel G (w.frz a vs) (st.set i .dead) where
  sub := fun b u e => by
    have e : upd w.I a (.lst vs) b = some u := e
    by_cases hb : b = a
    · rw [hb] at e ⊢
      rw [upd_same] at e
      rw [← e]
      exact h
    · rw [upd_ne hb] at e
      exact r.sub b u e
  len := by simp [Wd.frz, r.len]
  nd := r.nd
  cel := fun j b c hj hc => by
    have hj : w.ph[j]? = some b := hj
    by_cases e : i = j
    · subst e
      rw [hi] at hj
      cases hj
      have hl : i < st.length := by rw [← r.len]; exact (List.getElem?_eq_some_iff.mp hi).1
      rw [List.getElem?_set_self hl] at hc
      cases hc
      exact ⟨_, h⟩
    · rw [List.getElem?_set_ne e] at hc
      have hb : b ≠ a := fun z => by
        subst z
        obtain ⟨h1, e1⟩ := List.getElem?_eq_some_iff.mp hi
        obtain ⟨h2, e2⟩ := List.getElem?_eq_some_iff.mp hj
        exact e ((List.getElem_inj r.nd).mp (e1.trans e2.symm))
      have k := r.cel j b c hj hc
      cases c with
      | lst ys =>
        obtain ⟨e0, us, e, z⟩ := k
        exact ⟨by show upd w.I a (.lst vs) b = none; rw [upd_ne hb]; exact e0, us, e, z.mono (Evl.Ex.new hI) Px.refl⟩
      | dead => exact k
end
/-! ### slots -/
abbrev Sl := List (Option D)
def Slo (G : Md) (w : Wd) (sv : L2.St) (sd : Sl) : Prop := sv.length = sd.length ∧ ∀ (i : Nat) d, sd[i]? = some (some d) → ∃ v, sv[i]? = some (some v) ∧ Rep G w.I w.ph v d
section
variable {G : Md} {w w' : Wd} {sv : L2.St} {sd : Sl} {v : V} {d : D}
theorem Slo.step (s : Step w w') (h : Slo G w sv sd) : Slo G w' sv sd := ⟨h.1, fun i d e => by
  obtain ⟨v, a, b⟩ := h.2 i d e
  exact ⟨v, a, b.step s⟩⟩
theorem Slo.set (h : Slo G w sv sd) (i : Nat) (r : Rep G w.I w.ph v d) : Slo G w (sv.set i (some v)) (sd.set i (some d)) := by
  refine ⟨by simp [h.1], fun j e q => ?_⟩
  rw [List.getElem?_set] at q
  by_cases hj : i = j
  · subst hj
    rw [if_pos rfl] at q
    split at q
    · rename_i hl
      simp at q
      subst q
      exact ⟨v, by rw [List.getElem?_set_self (by rw [h.1]; exact hl)], r⟩
    · cases q
  · rw [if_neg hj] at q
    obtain ⟨x, a, b⟩ := h.2 j e q
    exact ⟨x, by rw [List.getElem?_set_ne hj]; exact a, b⟩
def wipeD (sd : Sl) : List Nat → Sl
  | [] => sd
  | i :: is => (wipeD sd is).set i none
theorem Slo.wipe (h : Slo G w sv sd) (vs : List Nat) : Slo G w (L2.wipe sv vs) (wipeD sd vs) := by
  induction vs with
  | nil => exact h
  | cons i is ih =>
    refine ⟨by simp [L2.wipe, wipeD, ih.1], fun j e q => ?_⟩
    have q : ((wipeD sd is).set i none)[j]? = some (some e) := q
    rw [List.getElem?_set] at q
    by_cases hj : i = j
    · subst hj
      rw [if_pos rfl] at q
      split at q <;> cases q
    · rw [if_neg hj] at q
      obtain ⟨x, a, b⟩ := ih.2 j e q
      refine ⟨x, ?_, b⟩
      show ((L2.wipe sv is).set i none)[j]? = some (some x)
      rw [List.getElem?_set_ne hj]
      exact a
end
end DS
namespace DS
open PySem PySem.Spec PyProof.Rows L2

/-! ### what is wanted behind a part -/
def ExR (G : Md) (w : Wd) (c : Exc) (cls : Value) (dd : Option Addr) : Prop :=
  (match c.cls with
    | .glo x => G.mg x = some cls
    | .ty n => cls = .type n
    | _ => False) ∧
  match c.arg with
    | none => dd = none
    | some q => ∃ a v, dd = some a ∧ w.I a = some (.xd [(q.1, v)]) ∧ Rep G w.I w.ph v q.2
theorem ExR.step {G : Md} {w w' : Wd} {c : Exc} {cls : Value} {dd : Option Addr} (s : Step w w') (h : ExR G w c cls dd) : ExR G w' c cls dd := by
  obtain ⟨h1, h2⟩ := h
  refine ⟨h1, ?_⟩
  cases q : c.arg with
  | none =>
    rw [q] at h2
    exact h2
  | some p =>
    rw [q] at h2
    obtain ⟨a, v, e1, e2, e3⟩ := h2
    exact ⟨a, v, e1, s.im _ _ e2, e3.step s⟩
abbrev RR (b a : Type) := Wd → Wd → b → a → Prop
structure An {b a : Type} (R : RR b a) : Prop where
  up : ∀ (w w' w2 : Wd) (y : b) (x : a), Step w w' → R w' w2 y x → R w w2 y x
def Post {b a : Type} (G : Md) (R : RR b a) (w : Wd) (r : Res a) (Q : b → Hp → Prop) (W : XK) : Prop := match r with
  | .ok x st => ∀ w' y, Step w w' → Rel G w' st → R w w' y x → Q y w'.H
  | .ex c st => ∀ w' cls dd, Step w w' → Rel G w' st → ExR G w' c cls dd → W cls dd w'.H
  | .stk => False
section
variable {a b c d : Type} {G : Md} {R : RR b a} {R2 : RR d c} {w w' : Wd} {r : Res a} {Q Q' : b → Hp → Prop} {W : XK}
theorem Post.step (hR : An R) (s : Step w w') (h : Post G R w r Q W) : Post G R w' r Q W := by
  cases r with
  | ok x st => exact fun w2 y s2 r2 q => h w2 y (s.trans s2) r2 (hR.up _ _ _ _ _ s q)
  | ex e st => exact fun w2 cls dd s2 r2 q => h w2 cls dd (s.trans s2) r2 q
  | stk => exact h
theorem Post.imp (h : Post G R w r Q W) (k : ∀ y H, Q y H → Q' y H) : Post G R w r Q' W := by
  cases r with
  | ok x st => exact fun w2 y s2 r2 q => k _ _ (h w2 y s2 r2 q)
  | ex e st => exact h
  | stk => exact h
theorem Post.bind {k : a → Sto → Res c} {Q2 : d → Hp → Prop} (h : Post G R2 w (r.bind k) Q2 W) :
    Post G R w r (fun y H => ∃ w' x st', w'.H = H ∧ Step w w' ∧ Rel G w' st' ∧ R w w' y x ∧ Post G R2 w (k x st') Q2 W) W := by
  cases r with
  | ok x st => exact fun w2 y s2 r2 q => ⟨w2, x, st, rfl, s2, r2, q, h⟩
  | ex e st => exact h
  | stk => exact h
end
/-- a value stands for a datum -/
def RE (G : Md) : RR V D := fun _ w' v d => Rep G w'.I w'.ph v d
def RA (G : Md) : RR (List V) (List D) := fun _ w' v d => Reps G w'.I w'.ph v d
def RT : RR Bool Bool := fun _ _ x y => x = y
/-- a new list that nobody holds -/
def RF (G : Md) : RR V (List D) := fun w w' v xs => ∃ p vs, v = .ref p ∧ w.H p = none ∧ p ∉ w'.ph ∧ w'.I p = none ∧ w'.H p = some (.lst vs) ∧ Reps G w'.I w'.ph vs xs
theorem anE {G : Md} : An (RE G) := ⟨fun _ _ _ _ _ _ h => h⟩
theorem anA {G : Md} : An (RA G) := ⟨fun _ _ _ _ _ _ h => h⟩
theorem anT : An RT := ⟨fun _ _ _ _ _ _ h => h⟩
theorem anF {G : Md} : An (RF G) := ⟨fun _ _ _ _ _ s ⟨p, vs, e, h, r⟩ => ⟨p, vs, e, s.live p h, r⟩⟩

abbrev EE := Sl → Sto → Res D
abbrev EA := Sl → Sto → Res (List D)
abbrev ET := Sl → Sto → Res Bool
def SE (G : Md) (E : L2.St → XK) (te : TE) (f : EE) : Prop := ∀ w sv sd st Q, Rel G w st → Slo G w sv sd → Post G (RE G) w (f sd st) Q (E sv) → te sv w.H Q
def SA (G : Md) (E : L2.St → XK) (ta : TA) (f : EA) : Prop := ∀ w sv sd st Q, Rel G w st → Slo G w sv sd → Post G (RA G) w (f sd st) Q (E sv) → ta sv w.H Q
def ST (G : Md) (E : L2.St → XK) (tt : TT) (f : ET) : Prop := ∀ w sv sd st Q, Rel G w st → Slo G w sv sd → Post G RT w (f sd st) Q (E sv) → tt sv w.H Q
def SF (G : Md) (E : L2.St → XK) (te : TE) (f : EA) : Prop := ∀ w sv sd st Q, Rel G w st → Slo G w sv sd → Post G (RF G) w (f sd st) Q (E sv) → te sv w.H Q

/-! ### parts of expressions -/
def eVar (i : Nat) : EE := fun sd st => match sd[i]? with
  | some (some d) => .ok d st
  | _ => .stk
def eC (d : D) : EE := fun _ st => .ok d st
def eOp (g : Sto → D → D → Option D) (fa fb : EE) : EE := fun sd st => (fa sd st).bind fun x st1 => (fb sd st1).bind fun y st2 => Res.ofO (g st2 x y) st2
def eUn (g : Sto → D → Option D) (fa : EE) : EE := fun sd st => (fa sd st).bind fun x st1 => Res.ofO (g st1 x) st1
def aNil : EA := fun _ st => .ok [] st
def aCons (fa : EE) (fr : EA) : EA := fun sd st => (fa sd st).bind fun x st1 => (fr sd st1).bind fun xs st2 => .ok (x :: xs) st2
def lineN : Nat := 100000
def eTup (fa : EA) : EE := fun sd st => (fa sd st).bind fun xs st1 => if xs.length ≤ lineN then .ok (.tup xs) st1 else .stk
def fLst (fa : EA) : EA := fun sd st => (fa sd st).bind fun xs st1 => if xs.length ≤ lineN then .ok xs st1 else .stk
/-- a new list as a datum that stays -/
def eFz (f : EA) : EE := fun sd st => (f sd st).bind fun xs st1 => .ok (.lst xs) st1
def D.isB : D → Option Bool
  | .bl b => some b
  | _ => none
def eTest (f : EE) : ET := fun sd st => (f sd st).bind fun x st1 => Res.ofO x.isB st1
def eAnd (f g : ET) : ET := fun sd st => (f sd st).bind fun x st1 => if x = true then g sd st1 else .ok false st1
def eOr (f g : ET) : ET := fun sd st => (f sd st).bind fun x st1 => if x = true then .ok true st1 else g sd st1
def eNot (f : ET) : ET := fun sd st => (f sd st).bind fun x st1 => .ok (!x) st1
/-- as values: bools alone -/
def eAndV (f g : EE) : EE := fun sd st => (f sd st).bind fun x st1 => match x with
  | .bl true => g sd st1
  | .bl false => .ok (.bl false) st1
  | _ => .stk
def eOrV (f g : EE) : EE := fun sd st => (f sd st).bind fun x st1 => match x with
  | .bl true => .ok (.bl true) st1
  | .bl false => g sd st1
  | _ => .stk
def eNotV (f : EE) : EE := fun sd st => (f sd st).bind fun x st1 => match x with
  | .bl b => .ok (.bl (!b)) st1
  | _ => .stk
def eIf (c : ET) (f g : EE) : EE := fun sd st => (c sd st).bind fun x st1 => if x = true then f sd st1 else g sd st1
def OpD (G : Md) (r : R2) (g : Sto → D → D → Option D) : Prop := ∀ w st x y dx dy d Q, Rel G w st → Rep G w.I w.ph x dx → Rep G w.I w.ph y dy → g st dx dy = some d →
  (∀ w' v, Step w w' → Rel G w' st → Rep G w'.I w'.ph v d → Q v w'.H) → r x y w.H Q
def UnD (G : Md) (r : V → Hp → VK → Prop) (g : Sto → D → Option D) : Prop := ∀ w st x dx d Q, Rel G w st → Rep G w.I w.ph x dx → g st dx = some d →
  (∀ w' v, Step w w' → Rel G w' st → Rep G w'.I w'.ph v d → Q v w'.H) → r x w.H Q
def CaD (G : Md) (r : List V → Hp → VK → Prop) (g : Sto → List D → Option D) : Prop := ∀ w st xs ds d Q, Rel G w st → Reps G w.I w.ph xs ds → g st ds = some d →
  (∀ w' v, Step w w' → Rel G w' st → Rep G w'.I w'.ph v d → Q v w'.H) → r xs w.H Q
def eCB (g : Sto → List D → Option D) (fa : EA) : EE := fun sd st => (fa sd st).bind fun xs st1 => Res.ofO (g st1 xs) st1
/-- .. that give a new list -/
def OpF (G : Md) (r : R2) (g : Sto → D → D → Option (List D)) : Prop := ∀ w st x y dx dy d Q, Rel G w st → Rep G w.I w.ph x dx → Rep G w.I w.ph y dy → g st dx dy = some d →
  (∀ w' v, Step w w' → Rel G w' st → RF G w w' v d → Q v w'.H) → r x y w.H Q
def CaF (G : Md) (r : List V → Hp → VK → Prop) (g : Sto → List D → Option (List D)) : Prop := ∀ w st xs ds d Q, Rel G w st → Reps G w.I w.ph xs ds → g st ds = some d →
  (∀ w' v, Step w w' → Rel G w' st → RF G w w' v d → Q v w'.H) → r xs w.H Q
def fOp (g : Sto → D → D → Option (List D)) (fa fb : EE) : EA := fun sd st => (fa sd st).bind fun x st1 => (fb sd st1).bind fun y st2 => Res.ofO (g st2 x y) st2
def fCB (g : Sto → List D → Option (List D)) (fa : EA) : EA := fun sd st => (fa sd st).bind fun xs st1 => Res.ofO (g st1 xs) st1

section
variable {G : Md} {E : L2.St → XK} {ta tb te tx : TE} {t t2 : TT} {tA tR : TA} {f fa fb fx : EE} {c c2 : ET} {fs fr : EA} {r : R2}
theorem ofO_post {a b : Type} {R : RR b a} {w : Wd} {o : Option a} {st : Sto} {Q : b → Hp → Prop} {W : XK} (h : Post G R w (Res.ofO o st) Q W) : ∃ x, o = some x ∧ ∀ w' y, Step w w' → Rel G w' st → R w w' y x → Q y w'.H := by
  cases o with
  | none => exact h.elim
  | some x => exact ⟨x, rfl, h⟩
theorem se_var {i : Nat} : SE G E (tVar i) (eVar i) := by
  intro w sv sd st Q rel sl h
  unfold eVar at h
  split at h
  · rename_i d e
    obtain ⟨v, e1, rv⟩ := sl.2 i d e
    exact ⟨v, e1, h w v (Step.refl w) rel rv⟩
  · exact h.elim
theorem se_c {v : V} {d : D} (hr : ∀ I ph, Rep G I ph v d) : SE G E (tC v) (eC d) := fun w sv sd st Q rel sl h => h w v (Step.refl w) rel (hr _ _)
theorem se_op {g : Sto → D → D → Option D} (hg : OpD G r g) (ha : SE G E ta fa) (hb : SE G E tb fb) : SE G E (tOp r ta tb) (eOp g fa fb) := by
  intro w sv sd st Q rel sl h
  refine ha w sv sd st _ rel sl ((Post.bind h).imp ?_)
  rintro x _ ⟨w1, dx, st1, rfl, s1, r1, rx, h1⟩
  refine hb w1 sv sd st1 _ r1 (sl.step s1) ((Post.bind (h1.step anE s1)).imp ?_)
  rintro y _ ⟨w2, dy, st2, rfl, s2, r2, ry, h2⟩
  obtain ⟨d, e, h3⟩ := ofO_post (h2.step anE s2)
  exact hg w2 st2 x y dx dy d Q r2 (Rep.step s2 rx) ry e h3
theorem sf_op {g : Sto → D → D → Option (List D)} (hg : OpF G r g) (ha : SE G E ta fa) (hb : SE G E tb fb) : SF G E (tOp r ta tb) (fOp g fa fb) := by
  intro w sv sd st Q rel sl h
  refine ha w sv sd st _ rel sl ((Post.bind h).imp ?_)
  rintro x _ ⟨w1, dx, st1, rfl, s1, r1, rx, h1⟩
  refine hb w1 sv sd st1 _ r1 (sl.step s1) ((Post.bind (h1.step anF s1)).imp ?_)
  rintro y _ ⟨w2, dy, st2, rfl, s2, r2, ry, h2⟩
  obtain ⟨d, e, h3⟩ := ofO_post (h2.step anF s2)
  exact hg w2 st2 x y dx dy d Q r2 (Rep.step s2 rx) ry e h3
theorem se_un {r : V → Hp → VK → Prop} {g : Sto → D → Option D} (hg : UnD G r g) (ha : SE G E ta fa) : SE G E (tUn r ta) (eUn g fa) := by
  intro w sv sd st Q rel sl h
  refine ha w sv sd st _ rel sl ((Post.bind h).imp ?_)
  rintro x _ ⟨w1, dx, st1, rfl, s1, r1, rx, h1⟩
  obtain ⟨d, e, h3⟩ := ofO_post (h1.step anE s1)
  exact hg w1 st1 x dx d Q r1 rx e h3
theorem sa_nil : SA G E tNil aNil := fun w sv sd st Q rel sl h => h w [] (Step.refl w) rel Reps.nil
theorem sa_cons (ha : SE G E ta fa) (hr : SA G E tR fr) : SA G E (tCons ta tR) (aCons fa fr) := by
  intro w sv sd st Q rel sl h
  refine ha w sv sd st _ rel sl ((Post.bind h).imp ?_)
  rintro x _ ⟨w1, dx, st1, rfl, s1, r1, rx, h1⟩
  refine hr w1 sv sd st1 _ r1 (sl.step s1) ((Post.bind (h1.step anA s1)).imp ?_)
  rintro xs _ ⟨w2, ds, st2, rfl, s2, r2, rs, h2⟩
  exact (h2.step anA s2) w2 _ (Step.refl _) r2 (Reps.cons (Rep.step s2 rx) rs)
/-- a new list, held by nobody -/
theorem fresh_lst {w : Wd} {st : Sto} {p : Addr} {vs : List V} {ds : List D} (r : Rel G w st) (hp : w.H p = none) (rs : Reps G w.I w.ph vs ds) : Step w ⟨w.I, w.ph, upd w.H p (.lst vs)⟩ ∧ Rel G ⟨w.I, w.ph, upd w.H p (.lst vs)⟩ st := by
  refine ⟨⟨Evl.Ex.refl _, Px.refl, fun _ _ h => .inl h, fun _ h => .inl h, fun a o h _ => Evl.Ex.new hp a o h, fun a h => ?_⟩, ⟨r.sub.trans (Evl.Ex.new hp), r.len, r.nd, fun i a c hi hc => ?_⟩⟩
  · have h : upd w.H p (.lst vs) a = none := h
    by_cases ha : a = p
    · rw [ha]; exact hp
    · rw [upd_ne ha] at h; exact h
  · have k := r.cel i a c hi hc
    cases c with
    | lst ys =>
      obtain ⟨e0, us, e, z⟩ := k
      exact ⟨e0, us, Evl.Ex.new hp _ _ e, z⟩
    | dead =>
      obtain ⟨u, e⟩ := k
      exact ⟨u, Evl.Ex.new hp _ _ e⟩
theorem line_ok {n : Nat} (h : n ≤ lineN) : n ≤ sizeLine := Evl.sz_of h
theorem se_tup (ha : SA G E tA fr) : SE G E (tTup tA) (eTup fr) := by
  intro w sv sd st Q rel sl h
  refine ha w sv sd st _ rel sl ((Post.bind h).imp ?_)
  rintro xs _ ⟨w1, ds, st1, rfl, s1, r1, rs, h1⟩
  have h1 := h1.step anE s1
  split at h1
  · rename_i hl
    refine ⟨line_ok (by rw [rs.1]; exact hl), fun p hp => ?_⟩
    exact h1 (w1.addI p (.tup xs)) _ (step_addI r1 hp) (r1.addI hp) (Rep.tup' (SqT.of upd_same) (rs.step (step_addI r1 hp)))
  · exact h1.elim
theorem sf_lst (ha : SA G E tA fr) : SF G E (tLst tA) (fLst fr) := by
  intro w sv sd st Q rel sl h
  refine ha w sv sd st _ rel sl ((Post.bind h).imp ?_)
  rintro xs _ ⟨w1, ds, st1, rfl, s1, r1, rs, h1⟩
  have h1 := h1.step anF s1
  split at h1
  · rename_i hl
    refine ⟨line_ok (by rw [rs.1]; exact hl), fun p hp => ?_⟩
    have k := fresh_lst r1 hp rs
    exact h1 ⟨w1.I, w1.ph, upd w1.H p (.lst xs)⟩ _ k.1 k.2 ⟨p, xs, rfl, hp, r1.notIn hp, r1.noI hp, upd_same, rs⟩
  · exact h1.elim
/-- a new list is kept as it is -/
theorem keep_new {w w' : Wd} {st : Sto} {v : V} {xs : List D} (s : Step w w') (r : Rel G w' st) (h : RF G w w' v xs) : ∃ w2, w2.H = w'.H ∧ Step w w2 ∧ Rel G w2 st ∧ Rep G w2.I w2.ph v (.lst xs) := by
  obtain ⟨p, vs, rfl, h0, h1, h2, h3, h4⟩ := h
  have ex : Evl.Ex w'.I (upd w'.I p (.lst vs)) := Evl.Ex.new h2
  refine ⟨⟨upd w'.I p (.lst vs), w'.ph, w'.H⟩, rfl, ⟨s.im.trans ex, s.px, fun a o e => ?_, s.newP, s.keep, s.live⟩, ⟨fun a o e => ?_, r.len, r.nd, fun i a c hi hc => ?_⟩, Rep.lst' upd_same (h4.mono ex Px.refl)⟩
  · by_cases ha : a = p
    · rw [ha]; exact .inr (.inl h0)
    · have e : upd w'.I p (.lst vs) a = some o := e
      rw [upd_ne ha] at e
      exact s.newI a o e
  · have e : upd w'.I p (.lst vs) a = some o := e
    by_cases ha : a = p
    · rw [ha] at e ⊢
      rw [upd_same] at e
      rw [← e]
      exact h3
    · rw [upd_ne ha] at e
      exact r.sub a o e
  · have ha : a ≠ p := fun e => h1 (e ▸ List.mem_of_getElem? hi)
    have k := r.cel i a c hi hc
    cases c with
    | lst ys =>
      obtain ⟨e0, us, e, z⟩ := k
      exact ⟨by show upd w'.I p (.lst vs) a = none; rw [upd_ne ha]; exact e0, us, e, z.mono ex Px.refl⟩
    | dead => exact k
theorem se_fz (h : SF G E te fs) : SE G E te (eFz fs) := by
  intro w sv sd st Q rel sl q
  refine h w sv sd st _ rel sl ((Post.bind q).imp ?_)
  rintro v _ ⟨w1, xs, st1, rfl, s1, r1, hf, h1⟩
  obtain ⟨w2, e, s2, r2, rp⟩ := keep_new s1 r1 hf
  rw [← e]
  exact h1 w2 v s2 r2 rp
theorem isB_rep {w : Wd} {v : V} {d : D} {b : Bool} (h : Rep G w.I w.ph v d) (e : d.isB = some b) : v = .bl b := by
  cases h with
  | bl x =>
    have e : some x = some b := e
    cases e
    rfl
  | _ => cases e
theorem st_test (h : SE G E te f) : ST G E (tTest te) (eTest f) := by
  intro w sv sd st Q rel sl q
  refine h w sv sd st _ rel sl ((Post.bind q).imp ?_)
  rintro x _ ⟨w1, dx, st1, rfl, s1, r1, rx, h1⟩
  obtain ⟨b, e, h3⟩ := ofO_post (h1.step anT s1)
  exact ⟨b, isB_rep rx e, h3 w1 b (Step.refl _) r1 rfl⟩
theorem st_B (h : SE G E te f) : ST G E (tB te) (eTest f) := st_test h
theorem st_and (h : ST G E t c) (h2 : ST G E t2 c2) : ST G E (tAnd t t2) (eAnd c c2) := by
  intro w sv sd st Q rel sl q
  refine h w sv sd st _ rel sl ((Post.bind q).imp ?_)
  rintro x _ ⟨w1, b, st1, rfl, s1, r1, rfl, h1⟩
  have h1 := h1.step anT s1
  cases x with
  | true => exact h2 w1 sv sd st1 _ r1 (sl.step s1) h1
  | false => exact h1 w1 false (Step.refl _) r1 rfl
theorem st_or (h : ST G E t c) (h2 : ST G E t2 c2) : ST G E (tOr t t2) (eOr c c2) := by
  intro w sv sd st Q rel sl q
  refine h w sv sd st _ rel sl ((Post.bind q).imp ?_)
  rintro x _ ⟨w1, b, st1, rfl, s1, r1, rfl, h1⟩
  have h1 := h1.step anT s1
  cases x with
  | false => exact h2 w1 sv sd st1 _ r1 (sl.step s1) h1
  | true => exact h1 w1 true (Step.refl _) r1 rfl
theorem st_not (h : ST G E t c) : ST G E (tNot t) (eNot c) := by
  intro w sv sd st Q rel sl q
  refine h w sv sd st _ rel sl ((Post.bind q).imp ?_)
  rintro x _ ⟨w1, b, st1, rfl, s1, r1, rfl, h1⟩
  exact (h1.step anT s1) w1 (!x) (Step.refl _) r1 rfl
theorem se_andV (h : SE G E ta fa) (h2 : SE G E tb fb) : SE G E (tAndV ta tb) (eAndV fa fb) := by
  intro w sv sd st Q rel sl q
  refine h w sv sd st _ rel sl ((Post.bind q).imp ?_)
  rintro x _ ⟨w1, dx, st1, rfl, s1, r1, rx, h1⟩
  have h1 := h1.step anE s1
  cases rx with
  | bl b =>
    refine ⟨b, rfl, ?_⟩
    cases b with
    | true => exact h2 w1 sv sd st1 _ r1 (sl.step s1) h1
    | false => exact h1 w1 _ (Step.refl _) r1 (.bl false)
  | _ => exact h1.elim
theorem se_orV (h : SE G E ta fa) (h2 : SE G E tb fb) : SE G E (tOrV ta tb) (eOrV fa fb) := by
  intro w sv sd st Q rel sl q
  refine h w sv sd st _ rel sl ((Post.bind q).imp ?_)
  rintro x _ ⟨w1, dx, st1, rfl, s1, r1, rx, h1⟩
  have h1 := h1.step anE s1
  cases rx with
  | bl b =>
    refine ⟨b, rfl, ?_⟩
    cases b with
    | false => exact h2 w1 sv sd st1 _ r1 (sl.step s1) h1
    | true => exact h1 w1 _ (Step.refl _) r1 (.bl true)
  | _ => exact h1.elim
theorem se_notV (h : SE G E ta fa) : SE G E (tNotV ta) (eNotV fa) := by
  intro w sv sd st Q rel sl q
  refine h w sv sd st _ rel sl ((Post.bind q).imp ?_)
  rintro x _ ⟨w1, dx, st1, rfl, s1, r1, rx, h1⟩
  have h1 := h1.step anE s1
  cases rx with
  | bl b => exact ⟨b, rfl, h1 w1 _ (Step.refl _) r1 (.bl _)⟩
  | _ => exact h1.elim
theorem se_if (hc : ST G E t c) (ha : SE G E ta fa) (hb : SE G E tb fb) : SE G E (tIf t ta tb) (eIf c fa fb) := by
  intro w sv sd st Q rel sl q
  refine hc w sv sd st _ rel sl ((Post.bind q).imp ?_)
  rintro x _ ⟨w1, b, st1, rfl, s1, r1, rfl, h1⟩
  have h1 := h1.step anE s1
  cases x with
  | true => exact ha w1 sv sd st1 _ r1 (sl.step s1) h1
  | false => exact hb w1 sv sd st1 _ r1 (sl.step s1) h1
theorem se_cb {r : List V → Hp → VK → Prop} {g : Sto → List D → Option D} (hg : CaD G r g) (ha : SA G E tA fr) : SE G E (tCB r tA) (eCB g fr) := by
  intro w sv sd st Q rel sl h
  refine ha w sv sd st _ rel sl ((Post.bind h).imp ?_)
  rintro x _ ⟨w1, dx, st1, rfl, s1, r1, rx, h1⟩
  obtain ⟨d, e, h3⟩ := ofO_post (h1.step anE s1)
  exact hg w1 st1 x dx d Q r1 rx e h3
theorem sf_cb {r : List V → Hp → VK → Prop} {g : Sto → List D → Option (List D)} (hg : CaF G r g) (ha : SA G E tA fr) : SF G E (tCB r tA) (fCB g fr) := by
  intro w sv sd st Q rel sl h
  refine ha w sv sd st _ rel sl ((Post.bind h).imp ?_)
  rintro x _ ⟨w1, dx, st1, rfl, s1, r1, rx, h1⟩
  obtain ⟨d, e, h3⟩ := ofO_post (h1.step anF s1)
  exact hg w1 st1 x dx d Q r1 rx e h3
end
end DS
namespace DS
open PySem PySem.Spec PyProof.Rows L2

inductive Fl where
  | nx | brk | cnt | ret (d : D)
inductive SR where
  | go (f : Fl) (sd : Sl) (st : Sto)
  | ex (c : Exc) (sd : Sl) (st : Sto)
  | stk
abbrev SS := Sl → Sto → SR
def Res.toS {a : Type} (r : Res a) (sd : Sl) (k : a → Sto → SR) : SR := match r with
  | .ok x st => k x st
  | .ex c st => .ex c sd st
  | .stk => .stk
def PostS (G : Md) (w : Wd) (r : SR) (Dn : Ends) (W : WX) : Prop := match r with
  | .go .nx sd st => ∀ w' sv, Step w w' → Rel G w' st → Slo G w' sv sd → Dn.nx sv w'.H
  | .go .brk sd st => ∀ w' sv, Step w w' → Rel G w' st → Slo G w' sv sd → Dn.bk sv w'.H
  | .go .cnt sd st => ∀ w' sv, Step w w' → Rel G w' st → Slo G w' sv sd → Dn.ct sv w'.H
  | .go (.ret d) sd st => ∀ w' v, Step w w' → Rel G w' st → Rep G w'.I w'.ph v d → Dn.rt v w'.H
  | .ex c sd st => ∀ w' sv cls dd, Step w w' → Rel G w' st → Slo G w' sv sd → ExR G w' c cls dd → W cls dd sv w'.H
  | .stk => False
def SD (G : Md) (W : WX) (ts : TS) (f : SS) : Prop := ∀ w sv sd st Dn, Rel G w st → Slo G w sv sd → PostS G w (f sd st) Dn W → ts Dn sv w.H
abbrev EW (W : WX) : L2.St → XK := fun sv cls dd H => W cls dd sv H
section
variable {G : Md} {w w' : Wd} {r : SR} {Dn : Ends} {W : WX}
theorem PostS.step (s : Step w w') (h : PostS G w r Dn W) : PostS G w' r Dn W := by
  cases r with
  | go f sd st =>
    cases f with
    | nx => exact fun w2 sv s2 r2 q => h w2 sv (s.trans s2) r2 q
    | brk => exact fun w2 sv s2 r2 q => h w2 sv (s.trans s2) r2 q
    | cnt => exact fun w2 sv s2 r2 q => h w2 sv (s.trans s2) r2 q
    | ret d => exact fun w2 v s2 r2 q => h w2 v (s.trans s2) r2 q
  | ex c sd st => exact fun w2 sv cls dd s2 r2 q e => h w2 sv cls dd (s.trans s2) r2 q e
  | stk => exact h
theorem PostS.ofE {a b : Type} {R : RR b a} {x : Res a} {sd : Sl} {sv : L2.St} {k : a → Sto → SR} (sl : Slo G w sv sd) (h : PostS G w (x.toS sd k) Dn W) :
    Post G R w x (fun y H => ∃ w' x st', w'.H = H ∧ Step w w' ∧ Rel G w' st' ∧ R w w' y x ∧ PostS G w (k x st') Dn W) (EW W sv) := by
  cases x with
  | ok x st => exact fun w2 y s2 r2 q => ⟨w2, x, st, rfl, s2, r2, q, h⟩
  | ex c st => exact fun w2 cls dd s2 r2 q => h w2 sv cls dd s2 r2 (sl.step s2) q
  | stk => exact h
end

/-! ### statements -/
def sNext : SS := fun sd st => .go .nx sd st
def sBrk : SS := fun sd st => .go .brk sd st
def sCnt : SS := fun sd st => .go .cnt sd st
def sSeq (f g : SS) : SS := fun sd st => match f sd st with
  | .go .nx sd1 st1 => g sd1 st1
  | r => r
def sSet (i : Nat) (f : EE) : SS := fun sd st => (f sd st).toS sd fun x st1 => .go .nx (sd.set i (some x)) st1
/-- a new list to a name: it may change from now on -/
def sNew (i : Nat) (f : EA) : SS := fun sd st => (f sd st).toS sd fun xs st1 => .go .nx (sd.set i (some (.hnd st1.length))) (st1 ++ [.lst xs])
def sRet (f : EE) : SS := fun sd st => (f sd st).toS sd fun x st1 => .go (.ret x) sd st1
def sRetN : SS := fun sd st => .go (.ret .non) sd st
def sDrop (f : EE) : SS := fun sd st => (f sd st).toS sd fun _ st1 => .go .nx sd st1
def sIf (c : ET) (f g : SS) : SS := fun sd st => (c sd st).toS sd fun x st1 => if x = true then f sd st1 else g sd st1
def loopG (r : SR) (k : Sl → Sto → SR) : SR := match r with
  | .go .nx sd st => k sd st
  | .go .cnt sd st => k sd st
  | .go .brk sd st => .go .nx sd st
  | r => r
def sLoop (c : ET) (b : SS) : Nat → SS
  | 0 => fun _ _ => .stk
  | n + 1 => fun sd st => (c sd st).toS sd fun x st1 => if x = true then loopG (b sd st1) (sLoop c b n) else .go .nx sd st1

section
variable {G : Md} {W : WX} {te : TE} {t : TT} {ts tu : TS} {f : EE} {fs : EA} {c : ET} {a b : SS}
theorem sd_next : SD G W tNext sNext := fun w sv sd st Dn rel sl h => h w sv (Step.refl w) rel sl
theorem sd_brk : SD G W tBreak sBrk := fun w sv sd st Dn rel sl h => h w sv (Step.refl w) rel sl
theorem sd_cnt : SD G W tCont sCnt := fun w sv sd st Dn rel sl h => h w sv (Step.refl w) rel sl
theorem sd_seq (ha : SD G W ts a) (hb : SD G W tu b) : SD G W (tSeq ts tu) (sSeq a b) := by
  intro w sv sd st Dn rel sl h
  unfold sSeq at h
  refine ha w sv sd st _ rel sl ?_
  cases q : a sd st with
  | go fl sd1 st1 =>
    rw [q] at h
    cases fl with
    | nx => exact fun w2 sv2 s2 r2 sl2 => hb w2 sv2 sd1 st1 Dn r2 sl2 (PostS.step s2 h)
    | brk => exact h
    | cnt => exact h
    | ret d => exact h
  | ex e sd1 st1 =>
    rw [q] at h
    exact h
  | stk =>
    rw [q] at h
    exact h
theorem sd_set {i : Nat} (h : SE G (EW W) te f) : SD G W (tAsg te (gName i)) (sSet i f) := by
  intro w sv sd st Dn rel sl q
  refine h w sv sd st _ rel sl ((PostS.ofE sl q).imp ?_)
  rintro x _ ⟨w1, dx, st1, rfl, s1, r1, rx, h1⟩
  exact h1 w1 _ s1 r1 ((sl.step s1).set i rx)
theorem sd_new {i : Nat} (h : SF G (EW W) te fs) : SD G W (tAsg te (gName i)) (sNew i fs) := by
  intro w sv sd st Dn rel sl q
  refine h w sv sd st _ rel sl ((PostS.ofE sl q).imp ?_)
  rintro x _ ⟨w1, xs, st1, rfl, s1, r1, hf, h1⟩
  obtain ⟨p, vs, rfl, p0, p1, p2, p3, p4⟩ := hf
  have s2 : Step w (w1.addP p) := ⟨s1.im, s1.px.trans (Px.app _ _), s1.newI, fun a ha => by
    rcases List.mem_append.mp (show a ∈ w1.ph ++ [p] from ha) with z | z
    · exact s1.newP a z
    · simp at z
      rw [z]; exact .inr p0, s1.keep, s1.live⟩
  have sl2 : Slo G (w1.addP p) sv sd := ⟨sl.1, fun i d e => by
    obtain ⟨v, a, b⟩ := sl.2 i d e
    exact ⟨v, a, b.step s2⟩⟩
  refine h1 (w1.addP p) _ s2 (r1.addP p1 p2 p3 p4) (sl2.set i (.hnd ?_))
  show (w1.ph ++ [p])[st1.length]? = some p
  rw [← r1.len, List.getElem?_append_right (Nat.le_refl _)]
  simp
theorem sd_ret (h : SE G (EW W) te f) : SD G W (tRet te) (sRet f) := by
  intro w sv sd st Dn rel sl q
  refine h w sv sd st _ rel sl ((PostS.ofE sl q).imp ?_)
  rintro x _ ⟨w1, dx, st1, rfl, s1, r1, rx, h1⟩
  exact h1 w1 _ s1 r1 rx
theorem sd_retN : SD G W tRetN sRetN := fun w sv sd st Dn rel sl h => h w .non (Step.refl w) rel .non
theorem sd_drop (h : SE G (EW W) te f) : SD G W (tDrop te) (sDrop f) := by
  intro w sv sd st Dn rel sl q
  refine h w sv sd st _ rel sl ((PostS.ofE sl q).imp ?_)
  rintro x _ ⟨w1, dx, st1, rfl, s1, r1, rx, h1⟩
  exact h1 w1 _ s1 r1 (sl.step s1)
theorem sd_if (hc : ST G (EW W) t c) (ha : SD G W ts a) (hb : SD G W tu b) : SD G W (tIfS t ts tu) (sIf c a b) := by
  intro w sv sd st Dn rel sl q
  refine hc w sv sd st _ rel sl ((PostS.ofE sl q).imp ?_)
  rintro x _ ⟨w1, y, st1, rfl, s1, r1, rfl, h1⟩
  have h1 := h1.step s1
  cases x with
  | true => exact ha w1 sv sd st1 Dn r1 (sl.step s1) h1
  | false => exact hb w1 sv sd st1 Dn r1 (sl.step s1) h1
theorem loop_post {w : Wd} {r : SR} {k : Sl → Sto → SR} {Dn : Ends} {N : L2.St → Hp → Prop} (h : PostS G w (loopG r k) Dn W)
    (hN : ∀ w' sv sd st, Step w w' → Rel G w' st → Slo G w' sv sd → PostS G w' (k sd st) Dn W → N sv w'.H) : PostS G w r { Dn with nx := N, ct := N, bk := Dn.nx } W := by
  cases r with
  | go fl sd st =>
    cases fl with
    | nx => exact fun w2 sv2 s2 r2 sl2 => hN w2 sv2 sd st s2 r2 sl2 (PostS.step s2 h)
    | brk => exact h
    | cnt => exact fun w2 sv2 s2 r2 sl2 => hN w2 sv2 sd st s2 r2 sl2 (PostS.step s2 h)
    | ret d => exact h
  | ex e sd st => exact h
  | stk => exact h
theorem sd_while {n : Nat} (hc : ST G (EW W) t c) (hb : SD G W ts b) : SD G W (tWhile t ts) (sLoop c b n) := by
  intro w sv sd st Dn rel sl q
  refine ⟨fun m sv H => ∃ w sd st, w.H = H ∧ Rel G w st ∧ Slo G w sv sd ∧ PostS G w (sLoop c b m sd st) Dn W, ⟨n, w, sd, st, rfl, rel, sl, q⟩, ?_⟩
  rintro m sv _ ⟨w, sd, st, rfl, rel, sl, q⟩
  cases m with
  | zero => exact q.elim
  | succ m =>
    refine hc w sv sd st _ rel sl ((PostS.ofE sl q).imp ?_)
    rintro x _ ⟨w1, y, st1, rfl, s1, r1, rfl, h1⟩
    have h1 := h1.step s1
    cases x with
    | true =>
      refine ⟨fun sv H => ∃ w sd st, w.H = H ∧ Rel G w st ∧ Slo G w sv sd ∧ PostS G w (sLoop c b m sd st) Dn W, fun sv' H' z => ⟨m, Nat.lt_succ_self m, z⟩, ?_⟩
      exact hb w1 sv sd st1 _ r1 (sl.step s1) (loop_post h1 fun w' sv' sd' st' s' r' sl' k => ⟨w', sd', st', rfl, r', sl', k⟩)
    | false => exact h1 w1 sv (Step.refl _) r1 (sl.step s1)
end

/-! ### what is walked -/
abbrev ItD := Sto → Nat → Option (Option D)
def ItOk (G : Md) (w1 : Wd) (J : It) (it : ItD) : Prop := ∀ w st, Step w1 w → Rel G w st → ∀ i,
  (∀ d, it st i = some (some d) → J.go i w.H ∧ ∀ x H', J.yld i w.H x H' → ∃ w', w'.H = H' ∧ Step w w' ∧ Rel G w' st ∧ Rep G w'.I w'.ph x d) ∧ (it st i = some none → J.stop i w.H)
def RI (G : Md) : RR It (ItD × Nat) := fun _ w' J it => ItOk G w' J it.1
theorem anI {G : Md} : An (RI G) := ⟨fun _ _ _ _ _ _ h => h⟩
abbrev EI := Sl → Sto → Res (ItD × Nat)
def SI (G : Md) (E : L2.St → XK) (wi : TI) (fi : EI) : Prop := ∀ w sv sd st R, Rel G w st → Slo G w sv sd → Post G (RI G) w (fi sd st) R (E sv) → wi sv w.H R
/-- targets -/
def SG (G : Md) (g : TG) (fg : D → SS) : Prop := ∀ w v d sv sd st Q, Rel G w st → Slo G w sv sd → Rep G w.I w.ph v d →
  PostS G w (fg d sd st) { nx := Q, rt := fun _ _ => False } (fun _ _ _ _ => False) → g v sv w.H Q
def gNameD (i : Nat) : D → SS := fun d sd st => .go .nx (sd.set i (some d)) st
theorem sg_name {G : Md} {i : Nat} : SG G (gName i) (gNameD i) := fun w v d sv sd st Q rel sl rx h => h w _ (Step.refl w) rel (sl.set i rx)
def gListD : List (D → SS) → List D → SS
  | [], [] => sNext
  | g :: gs, d :: ds => sSeq (g d) (gListD gs ds)
  | _, _ => fun _ _ => .stk
def gTupD (gs : List (D → SS)) : D → SS := fun d => match d with
  | .tup ds => fun sd st => if ds.length = gs.length then gListD gs ds sd st else .stk
  | _ => fun _ _ => .stk
inductive SGs (G : Md) : TGs → List (D → SS) → Prop
  | nil : SGs G gNil []
  | cons {g : TG} {u : TGs} {fg : D → SS} {fgs : List (D → SS)} : SG G g fg → SGs G u fgs → SGs G (gCons g u) (fg :: fgs)
theorem PostS.nx_imp {G : Md} {w : Wd} {r : SR} {N N' : L2.St → Hp → Prop} (h : PostS G w r { nx := N, rt := fun _ _ => False } (fun _ _ _ _ => False)) (k : ∀ sv H, N sv H → N' sv H) :
    PostS G w r { nx := N', rt := fun _ _ => False } (fun _ _ _ _ => False) := by
  cases r with
  | go fl sd st =>
    cases fl with
    | nx => exact fun w2 sv s2 r2 q => k _ _ (h w2 sv s2 r2 q)
    | brk => exact h
    | cnt => exact h
    | ret d => exact h
  | ex e sd st => exact h
  | stk => exact h
theorem ends_seq {G : Md} {w : Wd} {f g : SS} {sd : Sl} {st : Sto} {Q : L2.St → Hp → Prop} (h : PostS G w (sSeq f g sd st) { nx := Q, rt := fun _ _ => False } (fun _ _ _ _ => False)) :
    PostS G w (f sd st) { nx := fun sv H => ∃ w' sd' st', w'.H = H ∧ Step w w' ∧ Rel G w' st' ∧ Slo G w' sv sd' ∧ PostS G w' (g sd' st') { nx := Q, rt := fun _ _ => False } (fun _ _ _ _ => False), rt := fun _ _ => False } (fun _ _ _ _ => False) := by
  unfold sSeq at h
  cases q : f sd st with
  | go fl sd1 st1 =>
    rw [q] at h
    cases fl with
    | nx => exact fun w2 sv2 s2 r2 sl2 => ⟨w2, sd1, st1, rfl, s2, r2, sl2, PostS.step s2 h⟩
    | brk => exact h
    | cnt => exact h
    | ret d => exact h
  | ex e sd1 st1 =>
    rw [q] at h
    exact h
  | stk =>
    rw [q] at h
    exact h
theorem sgs_run {G : Md} {u : TGs} {fgs : List (D → SS)} (hs : SGs G u fgs) : ∀ (w : Wd) (vs : List V) (ds : List D) (sv : L2.St) (sd : Sl) (st : Sto) (Q : L2.St → Hp → Prop), Rel G w st → Slo G w sv sd → Reps G w.I w.ph vs ds →
    PostS G w (gListD fgs ds sd st) { nx := Q, rt := fun _ _ => False } (fun _ _ _ _ => False) → u vs sv w.H Q := by
  induction hs with
  | nil =>
    intro w vs ds sv sd st Q rel sl rs h
    cases ds with
    | nil => exact ⟨rs.inv_nil', h w sv (Step.refl w) rel sl⟩
    | cons d ds => exact h.elim
  | cons hg hu ih =>
    intro w vs ds sv sd st Q rel sl rs h
    cases ds with
    | nil => exact h.elim
    | cons d ds =>
      obtain ⟨v, vs', rfl, r1, r2⟩ := rs.inv_cons'
      refine ⟨v, vs', rfl, hg w v d sv sd st _ rel sl r1 ?_⟩
      refine (ends_seq (show PostS G w (sSeq _ _ sd st) _ _ from h)).nx_imp fun sv2 H2 ⟨w3, sd3, st3, e3, s3, r3, sl3, k3⟩ => ?_
      rw [← e3]
      exact ih w3 vs' ds sv2 sd3 st3 Q r3 sl3 (r2.step s3) k3
theorem sg_tup {G : Md} {u : TGs} {fgs : List (D → SS)} {n : Nat} (h : SGs G u fgs) (hn : fgs.length = n) : SG G (gTup G.K n u) (gTupD fgs) := by
  intro w v d sv sd st Q rel sl rx q
  cases d with
  | tup ds =>
    obtain ⟨a, vs, rfl, hq, rs⟩ := rx.tup_inv
    have q : PostS G w (if ds.length = fgs.length then gListD fgs ds sd st else .stk) { nx := Q, rt := fun _ _ => False } (fun _ _ _ _ => False) := q
    split at q
    · rename_i hl
      exact ⟨a, vs, rfl, Evl.ex_t rel.sub hq, by rw [rs.1, hl, hn], sgs_run h w vs ds sv sd st Q rel sl rs q⟩
    · exact q.elim
  | _ => exact q.elim

/-! ### for -/
def tgtG (r : SR) (k : Sl → Sto → SR) : SR := match r with
  | .go .nx sd st => k sd st
  | _ => .stk
def sForN (it : ItD) (fg : D → SS) (b : SS) : Nat → Nat → SS
  | 0, _ => fun _ _ => .stk
  | n + 1, i => fun sd st => match it st i with
    | none => .stk
    | some none => .go .nx sd st
    | some (some d) => tgtG (fg d sd st) fun sd1 st1 => loopG (b sd1 st1) (sForN it fg b n (i + 1))
def sFor (fi : EI) (fg : D → SS) (b : SS) : SS := fun sd st => (fi sd st).toS sd fun it st1 => sForN it.1 fg b (it.2 + 1) 0 sd st1
theorem tgt_post {G : Md} {W : WX} {w : Wd} {r : SR} {k : Sl → Sto → SR} {Dn : Ends} (h : PostS G w (tgtG r k) Dn W) :
    PostS G w r { nx := fun sv H => ∃ w' sd' st', w'.H = H ∧ Step w w' ∧ Rel G w' st' ∧ Slo G w' sv sd' ∧ PostS G w' (k sd' st') Dn W, rt := fun _ _ => False } (fun _ _ _ _ => False) := by
  cases r with
  | go fl sd st =>
    cases fl with
    | nx => exact fun w2 sv2 s2 r2 sl2 => ⟨w2, sd, st, rfl, s2, r2, sl2, PostS.step s2 h⟩
    | brk => exact h.elim
    | cnt => exact h.elim
    | ret d => exact h.elim
  | ex e sd st => exact h.elim
  | stk => exact h.elim
section
variable {G : Md} {W : WX} {wi : TI} {fi : EI} {g : TG} {fg : D → SS} {ts : TS} {b : SS}
theorem sd_for (hi : SI G (EW W) wi fi) (hg : SG G g fg) (hb : SD G W ts b) : SD G W (tFor wi g ts) (sFor fi fg b) := by
  intro w sv sd st Dn rel sl q
  refine hi w sv sd st _ rel sl ((PostS.ofE sl q).imp ?_)
  rintro J _ ⟨w1, it, st1, rfl, s1, r1, hJ, h1⟩
  have h1 := h1.step s1
  have hJ : ItOk G w1 J it.1 := hJ
  refine ⟨fun i m sv H => ∃ w sd st, w.H = H ∧ Step w1 w ∧ Rel G w st ∧ Slo G w sv sd ∧ PostS G w (sForN it.1 fg b m i sd st) Dn W, ⟨it.2 + 1, w1, sd, st1, rfl, Step.refl _, r1, sl.step s1, h1⟩, ?_⟩
  rintro i m sv _ ⟨w, sd, st, rfl, s, rel, sl, q⟩
  cases m with
  | zero => exact q.elim
  | succ m =>
    have q : PostS G w (match it.1 st i with
      | none => .stk
      | some none => .go .nx sd st
      | some (some d) => tgtG (fg d sd st) fun sd1 st1 => loopG (b sd1 st1) (sForN it.1 fg b m (i + 1))) Dn W := q
    obtain ⟨hs, he⟩ := hJ w st s rel i
    cases e : it.1 st i with
    | none =>
      rw [e] at q
      exact q.elim
    | some od =>
    cases od with
    | none =>
      rw [e] at q
      exact .inl ⟨he e, q w sv (Step.refl _) rel sl⟩
    | some d =>
      rw [e] at q
      obtain ⟨hgo, hy⟩ := hs d e
      refine .inr ⟨hgo, fun sv H => ∃ w sd st, w.H = H ∧ Step w1 w ∧ Rel G w st ∧ Slo G w sv sd ∧ PostS G w (sForN it.1 fg b m (i + 1) sd st) Dn W, fun sv' H' z => ⟨m, Nat.lt_succ_self m, z⟩, fun x H' hx => ?_⟩
      obtain ⟨w2, rfl, s2, r2, rx⟩ := hy x H' hx
      refine hg w2 x d sv sd st _ r2 (sl.step s2) rx ((tgt_post (PostS.step s2 q)).nx_imp ?_)
      rintro sv3 _ ⟨w3, sd3, st3, rfl, s3, r3, sl3, q3⟩
      exact hb w3 sv3 sd3 st3 _ r3 sl3 (loop_post q3 fun w' sv' sd' st' s' r' sl' k => ⟨w', sd', st', rfl, ((s.trans s2).trans s3).trans s', r', sl', k⟩)
end

/-! ### list comprehensions -/
def Res.noex {a : Type} : Res a → Res a
  | .ok x st => .ok x st
  | _ => .stk
theorem noex_post {a b : Type} {G : Md} {R : RR b a} {w : Wd} {r : Res a} {Q : b → Hp → Prop} {W W' : XK} (h : Post G R w r.noex Q W) : Post G R w r Q W' := by
  cases r with
  | ok x st => exact h
  | ex c st => exact h.elim
  | stk => exact h.elim
def lcN (it : ItD) (fg : D → SS) (ft : ET) (fe : EE) : Nat → Nat → Sl → Sto → Res (List D)
  | 0, _ => fun _ _ => .stk
  | n + 1, i => fun sd st => match it st i with
    | none => .stk
    | some none => .ok [] st
    | some (some d) => match fg d sd st with
      | .go .nx sd1 st1 => (ft sd1 st1).noex.bind fun x st2 => if x = true then (fe sd1 st2).noex.bind fun y st3 => (lcN it fg ft fe n (i + 1) sd st3).bind fun ys st4 => .ok (y :: ys) st4 else lcN it fg ft fe n (i + 1) sd st2
      | _ => .stk
def fLc (fi : EI) (fg : D → SS) (ft : ET) (fe : EE) (vs : List Nat) : EA := fun sd st => (fi sd st).bind fun it st1 => if it.2 < lineN then lcN it.1 fg ft fe (it.2 + 1) 0 (wipeD sd vs) st1 else .stk
def eYes : ET := fun _ st => .ok true st
theorem st_yes {G : Md} {E : L2.St → XK} : ST G E tYes eYes := fun w sv sd st Q rel sl h => h w true (Step.refl w) rel rfl
/-- a target that stores nothing beside its own slots: gs are among the wiped ones -/
def Wipes (g : TG) (vs : List Nat) : Prop := ∀ x σ H (Q : L2.St → Hp → Prop), g x (L2.wipe σ vs) H Q → g x (L2.wipe σ vs) H fun σ2 H2 => L2.wipe σ2 vs = L2.wipe σ vs ∧ Q σ2 H2
theorem Post.assoc {a b c e : Type} {G : Md} {R : RR e c} {w : Wd} {r : Res a} {k : a → Sto → Res b} {l : b → Sto → Res c} {Q : e → Hp → Prop} {W : XK} (h : Post G R w ((r.bind k).bind l) Q W) : Post G R w (r.bind fun x st => (k x st).bind l) Q W := by
  cases r with
  | ok x st => exact h
  | ex c st => exact h
  | stk => exact h
/-- a list on the side, whose maker alone knows it, is changed -/
theorem step_side {u v : Wd} {p : Addr} {o : HO} (s : Step u v) (h : u.H p = none) : Step u ⟨v.I, v.ph, upd v.H p o⟩ := by
  refine ⟨s.im, s.px, s.newI, s.newP, fun a x ha n => ?_, fun a ha => ?_⟩
  · have hp : a ≠ p := fun z => by rw [z, h] at ha; cases ha
    show upd v.H p o a = some x
    rw [upd_ne hp]
    exact s.keep a x ha n
  · have ha : upd v.H p o a = none := ha
    by_cases hp : a = p
    · rw [hp]; exact h
    · rw [upd_ne hp] at ha
      exact s.live a ha
theorem Rel.side {G : Md} {v : Wd} {st : Sto} {p : Addr} {o : HO} (r : Rel G v st) (hp : p ∉ v.ph) (hI : v.I p = none) : Rel G ⟨v.I, v.ph, upd v.H p o⟩ st := by
  refine ⟨fun a x ha => ?_, r.len, r.nd, fun i a c hi hc => ?_⟩
  · have h1 : a ≠ p := fun z => by
      have ha : v.I a = some x := ha
      rw [z, hI] at ha; cases ha
    show upd v.H p o a = some x
    rw [upd_ne h1]
    exact r.sub a x ha
  · have h1 : a ≠ p := fun z => hp (z ▸ List.mem_of_getElem? hi)
    have k := r.cel i a c hi hc
    cases c with
    | lst ys =>
      obtain ⟨e0, us, e, z⟩ := k
      exact ⟨e0, us, by show upd v.H p o a = _; rw [upd_ne h1]; exact e, z⟩
    | dead =>
      obtain ⟨u, e⟩ := k
      exact ⟨u, by show upd v.H p o a = _; rw [upd_ne h1]; exact e⟩
theorem stay {u v : Wd} {p : Addr} {o : HO} (s : Step u v) (h1 : u.H p = some o) (h2 : p ∉ u.ph) (h3 : u.I p = none) : v.H p = some o ∧ p ∉ v.ph ∧ v.I p = none := by
  refine ⟨s.keep p _ h1 h2, fun z => ?_, ?_⟩
  · rcases s.newP p z with z | z
    · exact h2 z
    · rw [h1] at z; cases z
  cases hi : v.I p with
  | none => rfl
  | some x =>
    rcases s.newI p x hi with z | z | z
    · rw [h3] at z; cases z
    · rw [h1] at z; cases z
    · exact absurd z h2
theorem Post.bindAt {a b c d : Type} {G : Md} {R : RR b a} {R2 : RR d c} {w w3 : Wd} {r : Res a} {W : XK} {k : a → Sto → Res c} {Q2 : d → Hp → Prop} (s : Step w w3) (h : Post G R2 w (r.bind k) Q2 W) :
    Post G R w3 r (fun y H => ∃ w' x st', w'.H = H ∧ Step w3 w' ∧ Rel G w' st' ∧ R w3 w' y x ∧ Post G R2 w (k x st') Q2 W) W := by
  cases r with
  | ok x st => exact fun w2 y s2 r2 q => ⟨w2, x, st, rfl, s2, r2, q, h⟩
  | ex e st => exact fun w2 cls dd s2 r2 q => h w2 cls dd (s.trans s2) r2 q
  | stk => exact h
section
variable {G : Md} {E : L2.St → XK} {wi : TI} {fi : EI} {g : TG} {fg : D → SS} {tt : TT} {te : TE} {ft : ET} {fe : EE} {vs : List Nat}
theorem sf_lc (hi : SI G E wi fi) (hg : SG G g fg) (hw : Wipes g vs) (ht : ST G (EW fun _ _ _ _ => False) tt ft) (he : SE G (EW fun _ _ _ _ => False) te fe) : SF G E (tLc wi g tt te vs) (fLc fi fg ft fe vs) := by
  intro w0 sv sd st Q rel sl q
  refine hi w0 sv sd st _ rel sl ((Post.bind q).imp ?_)
  rintro J _ ⟨w1, it, st1, rfl, s1, r1, hJ, h1⟩
  have hJ : ItOk G w1 J it.1 := hJ
  intro Dl hD
  split at h1
  · rename_i hlim
    refine ⟨fun i m H => ∃ w st vacc acc, w.H = H ∧ Step w1 w ∧ Rel G w st ∧ H Dl = some (.lst vacc) ∧ Reps G w.I w.ph vacc acc ∧ Dl ∉ w.ph ∧ w.I Dl = none ∧ acc.length ≤ i ∧ i + m = it.2 + 1 ∧
      Post G (RF G) w0 ((lcN it.1 fg ft fe m i (wipeD sd vs) st).bind fun ys st' => .ok (acc ++ ys) st') Q (E sv),
      ⟨it.2 + 1, ⟨w1.I, w1.ph, upd w1.H Dl (.lst [])⟩, st1, [], [], rfl, ?_, ?_, upd_same, Reps.nil, r1.notIn hD, r1.noI hD, Nat.le_refl _, by omega, ?_⟩, ?_⟩
    · exact (fresh_lst r1 hD (ds := []) Reps.nil).1
    · exact (fresh_lst r1 hD (ds := []) Reps.nil).2
    · cases hq : lcN it.1 fg ft fe (it.2 + 1) 0 (wipeD sd vs) st1 with
      | ok ys st' =>
        rw [hq] at h1
        exact h1
      | ex c st' =>
        rw [hq] at h1
        exact h1
      | stk =>
        rw [hq] at h1
        exact h1
    · rintro i m _ ⟨w, st, vacc, acc, rfl, s, rel, hacc, racc, nD, iD, hl, him, q⟩
      cases m with
      | zero => exact q.elim
      | succ m =>
        obtain ⟨hs, hen⟩ := hJ w st s rel i
        have q : Post G (RF G) w0 ((match it.1 st i with
          | none => Res.stk
          | some none => Res.ok [] st
          | some (some d) => match fg d (wipeD sd vs) st with
            | .go .nx sd1 st1 => (ft sd1 st1).noex.bind fun x st2 => if x = true then (fe sd1 st2).noex.bind fun y st3 => (lcN it.1 fg ft fe m (i + 1) (wipeD sd vs) st3).bind fun ys st4 => .ok (y :: ys) st4 else lcN it.1 fg ft fe m (i + 1) (wipeD sd vs) st2
            | _ => .stk).bind fun ys st' => .ok (acc ++ ys) st') Q (E sv) := q
        cases e : it.1 st i with
        | none =>
          rw [e] at q
          exact q.elim
        | some od =>
        cases od with
        | none =>
          rw [e] at q
          refine .inl ⟨hen e, q w _ (s1.trans s) rel ⟨Dl, vacc, rfl, s1.live Dl hD, nD, iD, hacc, ?_⟩⟩
          rw [List.append_nil]
          exact racc
        | some d =>
          rw [e] at q
          obtain ⟨hgo, hy⟩ := hs d e
          refine .inr ⟨hgo, _, fun H' z => ⟨m, Nat.lt_succ_self m, z⟩, fun x H' hx => ?_⟩
          obtain ⟨w2, rfl, s2, r2, rx⟩ := hy x H' hx
          have sl2 : Slo G w2 (L2.wipe sv vs) (wipeD sd vs) := ((sl.step s1).step (s.trans s2)).wipe vs
          refine hw x sv w2.H _ (hg w2 x d _ _ st _ r2 sl2 rx ?_)
          have q : Post G (RF G) w0 ((match fg d (wipeD sd vs) st with
            | .go .nx sd1 st1 => (ft sd1 st1).noex.bind fun x st2 => if x = true then (fe sd1 st2).noex.bind fun y st3 => (lcN it.1 fg ft fe m (i + 1) (wipeD sd vs) st3).bind fun ys st4 => .ok (y :: ys) st4 else lcN it.1 fg ft fe m (i + 1) (wipeD sd vs) st2
            | _ => .stk).bind fun ys st' => .ok (acc ++ ys) st') Q (E sv) := q
          cases hq : fg d (wipeD sd vs) st with
          | go fl sd1 st1' =>
            rw [hq] at q
            cases fl with
            | nx =>
              intro w3 sv3 s3 r3 sl3
              have q := (q : Post G (RF G) w0 (((ft sd1 st1').noex.bind fun x st2 => if x = true then (fe sd1 st2).noex.bind fun y st3 => (lcN it.1 fg ft fe m (i + 1) (wipeD sd vs) st3).bind fun ys st4 => Res.ok (y :: ys) st4 else lcN it.1 fg ft fe m (i + 1) (wipeD sd vs) st2).bind fun ys st' => .ok (acc ++ ys) st') Q (E sv))
              have d2 := s2.keep Dl _ hacc nD
              have nD2 : Dl ∉ w2.ph := fun z => (s2.newP Dl z).elim nD fun z => by rw [hacc] at z; cases z
              have d3 := s3.keep Dl _ d2 nD2
              obtain ⟨a1, a2, a3⟩ := stay s2 hacc nD iD
              obtain ⟨b1, b2, b3⟩ := stay s3 a1 a2 a3
              have S3 : Step w1 w3 := (s.trans s2).trans s3
              refine ht w3 sv3 sd1 st1' _ r3 sl3 (noex_post ((Post.bindAt (s1.trans S3) (Post.assoc q)).imp ?_))
              rintro x4 _ ⟨w4, x4', st4, rfl, s4, r4, rfl, q4⟩
              obtain ⟨c1, c2, c3⟩ := stay s4 b1 b2 b3
              cases x4 with
              | true =>
                have q4 : Post G (RF G) w0 (((fe sd1 st4).noex.bind fun y st3 => (lcN it.1 fg ft fe m (i + 1) (wipeD sd vs) st3).bind fun ys st4 => Res.ok (y :: ys) st4).bind fun ys st' => .ok (acc ++ ys) st') Q (E sv) := q4
                refine he w4 sv3 sd1 st4 _ r4 (sl3.step s4) (noex_post ((Post.bindAt ((s1.trans S3).trans s4) (Post.assoc q4)).imp ?_))
                rintro y _ ⟨w5, dy, st5, rfl, s5, r5, ry, q5⟩
                obtain ⟨e1, e2, e3⟩ := stay s5 c1 c2 c3
                have tot : Step w w5 := ((s2.trans s3).trans s4).trans s5
                refine ⟨vacc, e1, Evl.sz_lt (by rw [racc.1]; unfold lineN at hlim; omega), ⟨w5.I, w5.ph, upd w5.H Dl (.lst (vacc ++ [y]))⟩, st5, vacc ++ [y], acc ++ [dy], rfl, step_side (s.trans tot) hD, r5.side e2 e3, upd_same, (racc.step tot).append (Reps.cons ry Reps.nil), e2, e3, by simp; omega, by omega, ?_⟩
                cases hz : lcN it.1 fg ft fe m (i + 1) (wipeD sd vs) st5 with
                | ok ys st6 =>
                  rw [hz] at q5
                  show Post G (RF G) w0 (Res.ok (acc ++ [dy] ++ ys) st6) Q (E sv)
                  rw [List.append_assoc]
                  exact q5
                | ex c st6 =>
                  rw [hz] at q5
                  exact q5
                | stk =>
                  rw [hz] at q5
                  exact q5
              | false =>
                have q4 : Post G (RF G) w0 ((lcN it.1 fg ft fe m (i + 1) (wipeD sd vs) st4).bind fun ys st' => .ok (acc ++ ys) st') Q (E sv) := q4
                exact ⟨w4, st4, vacc, acc, rfl, S3.trans s4, r4, c1, racc.step ((s2.trans s3).trans s4), c2, c3, by omega, by omega, q4⟩
            | brk => exact q.elim
            | cnt => exact q.elim
            | ret d => exact q.elim
          | ex c sd1 st1' =>
            rw [hq] at q
            exact q.elim
          | stk =>
            rw [hq] at q
            exact q.elim
  · exact h1.elim
end
end DS
namespace DS
open PySem PySem.Spec PyProof.Rows L2

/-! ### data without lists that may change; without lists -/
mutual
def D.noH : D → Bool
  | .hnd _ => false
  | .tup xs => D.noHs xs
  | .lst xs => D.noHs xs
  | .scr xs => D.noHs xs
  | .dic kvs => D.noHk kvs
  | .obj _ fs => D.noHs fs
  | _ => true
def D.noHs : List D → Bool
  | [] => true
  | x :: xs => x.noH && D.noHs xs
def D.noHk : List (Str × D) → Bool
  | [] => true
  | x :: xs => x.2.noH && D.noHk xs
end
mutual
def D.noL : D → Bool
  | .hnd _ => false
  | .tup xs => D.noLs xs
  | .lst _ => false
  | .scr _ => false
  | .dic _ => false
  | .obj _ fs => D.noLs fs
  | _ => true
def D.noLs : List D → Bool
  | [] => true
  | x :: xs => x.noL && D.noLs xs
end
theorem noHs_get {ds : List D} {i : Nat} {d : D} (h : D.noHs ds = true) (e : ds[i]? = some d) : d.noH = true := by
  induction ds generalizing i with
  | nil => simp at e
  | cons x xs ih =>
    have h : (x.noH && D.noHs xs) = true := h
    rw [Bool.and_eq_true] at h
    cases i with
    | zero => simp at e; rw [← e]; exact h.1
    | succ i => exact ih h.2 (by simpa using e)
theorem noHk_get {ds : List (Str × D)} {i : Nat} {d : Str × D} (h : D.noHk ds = true) (e : ds[i]? = some d) : d.2.noH = true := by
  induction ds generalizing i with
  | nil => simp at e
  | cons x xs ih =>
    have h : (x.2.noH && D.noHk xs) = true := h
    rw [Bool.and_eq_true] at h
    cases i with
    | zero => simp at e; rw [← e]; exact h.1
    | succ i => exact ih h.2 (by simpa using e)
theorem noLs_get {ds : List D} {i : Nat} {d : D} (h : D.noLs ds = true) (e : ds[i]? = some d) : d.noL = true := by
  induction ds generalizing i with
  | nil => simp at e
  | cons x xs ih =>
    have h : (x.noL && D.noLs xs) = true := h
    rw [Bool.and_eq_true] at h
    cases i with
    | zero => simp at e; rw [← e]; exact h.1
    | succ i => exact ih h.2 (by simpa using e)
section
variable {G : Md} {I I' : Hp} {ph ph' : List Addr} {v : V} {d : D} {vs : List V} {ds : List D}
theorem Rep.anyPh (h : Rep G I ph v d) (n : d.noH = true) : Rep G I ph' v d := by
  induction h with
  | non => exact .non
  | bl b => exact .bl b
  | int i => exact .int i
  | str s => exact .str s
  | ty m => exact .ty m
  | glo h => exact .glo h
  | hnd h => cases n
  | tup h1 h2 _ ih => exact .tup h1 h2 fun i v d a b => ih i v d a b (noHs_get n b)
  | lst h1 h2 _ ih => exact .lst h1 h2 fun i v d a b => ih i v d a b (noHs_get n b)
  | scr h1 h2 _ ih => exact .scr h1 h2 fun i v d a b => ih i v d a b (noHs_get n b)
  | dic h1 h2 h3 _ ih => exact .dic h1 h2 h3 fun i p q a b => ih i p q a b (noHk_get n b)
theorem Reps.anyPh (h : Reps G I ph vs ds) (n : D.noHs ds = true) : Reps G I ph' vs ds := ⟨h.1, fun i v d a b => (h.2 i v d a b).anyPh (noHs_get n b)⟩
/-- what holds no list needs the lists no more -/
theorem Rep.noLists (h : Rep G I ph v d) (n : d.noL = true) (k : ∀ a o, I a = some o → (∃ xs, o = .lst xs) ∨ I' a = some o) : Rep G I' ph' v d := by
  induction h with
  | non => exact .non
  | bl b => exact .bl b
  | int i => exact .int i
  | str s => exact .str s
  | ty m => exact .ty m
  | glo h => exact .glo h
  | hnd h => cases n
  | tup h1 h2 _ ih =>
    refine .tup ?_ h2 fun i v d a b => ih i v d a b (noLs_get n b)
    rcases h1 with (h1 | ⟨o, h1⟩) | h1
    · rcases k _ _ h1 with ⟨xs, z⟩ | z
      · cases z
      · exact .inl (.inl z)
    · rcases k _ _ h1 with ⟨xs, z⟩ | z
      · cases z
      · exact .inl (.inr ⟨o, z⟩)
    · exact .inr h1
  | lst h1 h2 _ ih => cases n
  | scr h1 h2 _ ih => cases n
  | dic h1 h2 h3 _ ih => cases n
end

/-! ### what a def promises: what its function f tells -/
abbrev FF := Sto → List D → Res D
def spD (G : Md) (n : Nat) (f : FF) : Sp := fun vs H Q E => vs.length = n ∧ ∃ w st ds, w.H = H ∧ Rel G w st ∧ Reps G w.I w.ph vs ds ∧ Post G (RE G) w (f st ds) Q E
def finD (n : Nat) (d : D) (st : Sto) : Res D := if d.noH && (st.take n).all (fun c => match c with | .lst xs => D.noHs xs | .dead => true) then .ok d (st.take n) else .stk
def Exc.noH (c : Exc) : Bool := match c.arg with
  | none => true
  | some q => q.2.noH
def finX {a : Type} (n : Nat) (c : Exc) (st : Sto) : Res a := if c.noH && (st.take n).all (fun c => match c with | .lst xs => D.noHs xs | .dead => true) then .ex c (st.take n) else .stk
def fnD (nl : Nat) (body : SS) : FF := fun st ds => match body (ds.map some ++ List.replicate nl none) st with
  | .go (.ret d) _ st' => finD st.length d st'
  | .go .nx _ st' => finD st.length .non st'
  | .ex c _ st' => finX st.length c st'
  | _ => .stk
section
variable {G : Md} {w w' : Wd} {st st' : Sto}
theorem px_len {p q : List Addr} (h : Px p q) : p.length ≤ q.length := by
  cases hp : p.length with
  | zero => exact Nat.zero_le _
  | succ n =>
    have h1 : n < p.length := by omega
    have := (List.getElem?_eq_some_iff.mp (h n _ (List.getElem?_eq_getElem h1))).1
    omega
/-- behind a def: its own lists are forgotten -/
theorem back (rel : Rel G w st) (s : Step w w') (r : Rel G w' st') (hc : (st'.take st.length).all (fun c => match c with | .lst xs => D.noHs xs | .dead => true) = true) :
    Step w ⟨w'.I, w.ph, w'.H⟩ ∧ Rel G ⟨w'.I, w.ph, w'.H⟩ (st'.take st.length) := by
  have hl := px_len s.px
  refine ⟨⟨s.im, Px.refl, s.newI, fun _ h => .inl h, s.keep, s.live⟩, ⟨r.sub, ?_, rel.nd, fun i a c hi hs => ?_⟩⟩
  · rw [List.length_take, ← rel.len, ← r.len]
    exact (Nat.min_eq_left hl).symm
  · have hi : w.ph[i]? = some a := hi
    have hs2 : st'[i]? = some c := by
      rw [List.getElem?_take] at hs
      split at hs
      · exact hs
      · cases hs
    have k := r.cel i a c (s.px i a hi) hs2
    have hm := List.all_eq_true.mp hc c (List.mem_of_getElem? hs)
    cases c with
    | lst xs =>
      obtain ⟨e0, us, e, z⟩ := k
      exact ⟨e0, us, e, z.anyPh hm⟩
    | dead => exact k
theorem fin_ok {v : V} {d : D} {Q : VK} {E : XK} (rel : Rel G w st) (h : Post G (RE G) w (finD st.length d st') Q E) (s : Step w w') (r : Rel G w' st') (rv : Rep G w'.I w'.ph v d) : Q v w'.H := by
  unfold finD at h
  split at h
  · rename_i hc
    rw [Bool.and_eq_true] at hc
    obtain ⟨s2, r2⟩ := back rel s r hc.2
    exact h ⟨w'.I, w.ph, w'.H⟩ v s2 r2 (rv.anyPh hc.1)
  · exact h.elim
theorem finX_ok {a b : Type} {R : RR b a} {c : Exc} {cls : Value} {dd : Option Addr} {Q : b → Hp → Prop} {E : XK} (rel : Rel G w st) (h : Post G R w (finX st.length c st') Q E) (s : Step w w') (r : Rel G w' st') (rx : ExR G w' c cls dd) : E cls dd w'.H := by
  unfold finX at h
  split at h
  · rename_i hc
    rw [Bool.and_eq_true] at hc
    obtain ⟨s2, r2⟩ := back rel s r hc.2
    refine h ⟨w'.I, w.ph, w'.H⟩ cls dd s2 r2 ⟨rx.1, ?_⟩
    have hx := rx.2
    cases q : c.arg with
    | none =>
      rw [q] at hx
      exact hx
    | some p =>
      rw [q] at hx
      obtain ⟨a, v, e1, e2, e3⟩ := hx
      have hn := hc.1
      unfold Exc.noH at hn
      rw [q] at hn
      exact ⟨a, v, e1, e2, e3.anyPh hn⟩
  · exact h.elim
theorem entry_slots {N : List Str} {nl : Nat} {vs : List V} {ds : List D} (hN : N.length = vs.length + nl) (rs : Reps G w.I w.ph vs ds) : Slo G w (L2.start N vs) (ds.map some ++ List.replicate nl none) := by
  refine ⟨?_, fun i d e => ?_⟩
  · unfold L2.start
    have h1 := rs.1
    simp only [List.length_append, List.length_map, List.length_replicate]
    omega
  · by_cases hi : i < ds.length
    · rw [List.getElem?_append_left (by simpa using hi), List.getElem?_map] at e
      cases q : ds[i]? with
      | none => rw [q] at e; cases e
      | some x =>
        rw [q] at e
        simp at e
        subst e
        obtain ⟨v, a, b⟩ := rs.get q
        refine ⟨v, ?_, b⟩
        unfold L2.start
        rw [List.getElem?_append_left (by simpa [rs.1] using hi), List.getElem?_map, a]
        rfl
    · rw [List.getElem?_append_right (by simpa using hi), List.getElem?_replicate] at e
      split at e <;> cases e
/-- a body's function, at a def's entry -/
theorem fnD_run {W : WX} {ts : TS} {body : SS} {nl : Nat} {N : List Str} {vs : List V} {ds : List D} {Q : VK} {E : XK} (hb : SD G W ts body) (hW : ∀ cls d σ H, E cls d H → W cls d σ H) (hN : N.length = vs.length + nl)
    (rel : Rel G w st) (rs : Reps G w.I w.ph vs ds) (h : Post G (RE G) w (fnD nl body st ds) Q E) : ts { nx := fun _ H' => Q .non H', rt := Q } (L2.start N vs) w.H := by
  have sl := entry_slots hN rs
  refine hb w _ _ st _ rel sl ?_
  unfold fnD at h
  cases q : body (ds.map some ++ List.replicate nl none) st with
  | go fl sd st' =>
    rw [q] at h
    cases fl with
    | nx => exact fun w2 sv s2 r2 _ => fin_ok rel h s2 r2 .non
    | brk => exact (show False from h).elim
    | cnt => exact (show False from h).elim
    | ret d => exact fun w2 v s2 r2 rv => fin_ok rel h s2 r2 rv
  | ex c sd st' =>
    rw [q] at h
    exact fun w2 sv cls dd s2 r2 _ rx => hW _ _ _ _ (finX_ok rel h s2 r2 rx)
  | stk =>
    rw [q] at h
    exact (show False from h).elim
end

/-! ### calls -/
def snap (st : Sto) : D → Option D
  | .hnd i => match st[i]? with
    | some (.lst xs) => if D.noHs xs then some (.lst xs) else none
    | _ => none
  | d => if d.noH then some d else none
def snaps (st : Sto) : List D → Option (List D)
  | [] => some []
  | d :: ds => match snap st d, snaps st ds with
    | some x, some xs => some (x :: xs)
    | _, _ => none
def callR (st : Sto) (b : Bool) : Res D → Res D
  | .ok d [] => if b || d.noL then .ok d st else .stk
  | .ex c [] => if b then .ex c st else .stk
  | _ => .stk
/-- f(..), f a def that leaves what it gets as it is -/
def eCall (f : FF) (dds : List D) (fa : EA) : EE := fun sd st => (fa sd st).bind fun ds st1 =>
  if D.noHs ds then callR st1 true (f [] (ds ++ dds)) else match snaps st1 ds with
    | some xs => callR st1 false (f [] (xs ++ dds))
    | none => .stk
def callB (st : Sto) (h : Nat) : Res D → Res D
  | .ok d [.lst ys] => if d.noH && D.noHs ys then .ok d (st.set h (.lst ys)) else .stk
  | _ => .stk
/-- f(b, ..), f a def that may change the list b -/
def eCallB (f : FF) (dds : List D) (fa : EA) : EE := fun sd st => (fa sd st).bind fun ds st1 => match ds with
  | .hnd h :: rest => match st1[h]? with
    | some (.lst xs) => if D.noHs xs && D.noHs rest then callB st1 h (f [.lst xs] (.hnd 0 :: (rest ++ dds))) else .stk
    | _ => .stk
  | _ => .stk
section
variable {G : Md}
/-- the caller's world behind a def that was shown nothing of its lists -/
theorem after0 {w w' : Wd} {st : Sto} (rel : Rel G w st) (s : Step ⟨w.I, [], w.H⟩ w') (r : Rel G w' []) : Step w ⟨w'.I, w.ph, w'.H⟩ ∧ Rel G ⟨w'.I, w.ph, w'.H⟩ st := by
  refine ⟨⟨s.im, Px.refl, fun a o h => ?_, fun _ h => .inl h, fun a o h _ => s.keep a o h (by simp), s.live⟩, ⟨r.sub, rel.len, rel.nd, fun i a c hi hs => ?_⟩⟩
  · rcases s.newI a o h with z | z | z
    · exact .inl z
    · exact .inr (.inl z)
    · exact absurd z (by simp)
  · have k := rel.cel i a c hi hs
    cases c with
    | lst xs =>
      obtain ⟨e0, us, e, z⟩ := k
      refine ⟨?_, us, s.keep _ _ e (by simp), z.mono s.im Px.refl⟩
      show w'.I a = none
      cases q : w'.I a with
      | none => rfl
      | some o =>
        rcases s.newI a o q with z | z | z
        · rw [show (⟨w.I, [], w.H⟩ : Wd).I a = w.I a from rfl, e0] at z; cases z
        · rw [show (⟨w.I, [], w.H⟩ : Wd).H a = w.H a from rfl, e] at z; cases z
        · exact absurd z (by simp)
    | dead =>
      obtain ⟨u, e⟩ := k
      exact ⟨u, s.keep _ _ e (by simp)⟩
theorem rel0 {w : Wd} {st : Sto} (rel : Rel G w st) : Rel G ⟨w.I, [], w.H⟩ [] := ⟨rel.sub, rfl, List.nodup_nil, fun i a c hi _ => by simp at hi⟩
theorem ph_nil {w : Wd} (r : Rel G w []) : w.ph = [] := List.length_eq_zero_iff.mp r.len
theorem call_plain {w : Wd} {st : Sto} {f : FF} {vs : List V} {ds : List D} {Q : VK} {E : XK} {n : Nat} (rel : Rel G w st) (rs : Reps G w.I w.ph vs ds) (hn : D.noHs ds = true) (hl : vs.length = n)
    (h : Post G (RE G) w (callR st true (f [] ds)) Q E) : spD G n f vs w.H Q E := by
  refine ⟨hl, ⟨w.I, [], w.H⟩, [], ds, rfl, rel0 rel, rs.anyPh hn, ?_⟩
  cases q : f [] ds with
  | ok d st' =>
    rw [q] at h
    cases st' with
    | nil =>
      intro w' v s r rv
      obtain ⟨s2, r2⟩ := after0 rel s r
      have h : Post G (RE G) w (Res.ok d st) Q E := h
      refine h ⟨w'.I, w.ph, w'.H⟩ v s2 r2 (Rep.mono (Evl.Ex.refl _) (fun i a e => ?_) rv)
      rw [ph_nil r] at e
      simp at e
    | cons _ _ => exact (show False from h).elim
  | ex c st' =>
    rw [q] at h
    cases st' with
    | nil =>
      intro w' cls dd s r rx
      obtain ⟨s2, r2⟩ := after0 rel s r
      have h : Post G (RE G) w (Res.ex c st) Q E := h
      refine h ⟨w'.I, w.ph, w'.H⟩ cls dd s2 r2 ⟨rx.1, ?_⟩
      have hx := rx.2
      cases z : c.arg with
      | none =>
        rw [z] at hx
        exact hx
      | some p =>
        rw [z] at hx
        obtain ⟨a, v, e1, e2, e3⟩ := hx
        refine ⟨a, v, e1, e2, Rep.mono (Evl.Ex.refl _) (fun i a e => ?_) e3⟩
        rw [ph_nil r] at e
        simp at e
    | cons _ _ => exact (show False from h).elim
  | stk =>
    rw [q] at h
    exact (show False from h).elim
/-- the lists that may change, as they stand -/
def Live (w : Wd) (st : Sto) (a : Addr) : Prop := ∃ (i : Nat) (xs : List D), w.ph[i]? = some a ∧ st[i]? = some (Cell.lst xs)
open Classical in
noncomputable def shown (w : Wd) (st : Sto) : Hp := fun a => if Live w st a then w.H a else w.I a
open Classical in
noncomputable def hidden (w : Wd) (st : Sto) (I' : Hp) : Hp := fun a => if Live w st a then none else I' a
theorem live_at {w : Wd} {st : Sto} {a : Addr} (rel : Rel G w st) (h : Live w st a) : w.I a = none ∧ ∃ vs, w.H a = some (.lst vs) := by
  obtain ⟨i, xs, h1, h2⟩ := h
  obtain ⟨e0, vs, e, _⟩ := rel.cel i a _ h1 h2
  exact ⟨e0, vs, e⟩
theorem shown_up {w : Wd} {st : Sto} (rel : Rel G w st) : Evl.Ex w.I (shown w st) ∧ Evl.Ex (shown w st) w.H := by
  refine ⟨fun a o h => ?_, fun a o h => ?_⟩
  · unfold shown
    by_cases ha : Live w st a
    · rw [(live_at rel ha).1] at h; cases h
    · rw [if_neg ha]; exact h
  · unfold shown at h
    by_cases ha : Live w st a
    · rw [if_pos ha] at h; exact h
    · rw [if_neg ha] at h; exact rel.sub a o h
theorem snap_rep {w : Wd} {st : Sto} {v : V} {d x : D} (rel : Rel G w st) (rv : Rep G w.I w.ph v d) (h : snap st d = some x) : Rep G (shown w st) [] v x := by
  have plain : ∀ d : D, Rep G w.I w.ph v d → (if d.noH then some d else none) = some x → Rep G (shown w st) [] v x := fun d rv h => by
    split at h
    · rename_i hn
      cases h
      exact (rv.mono (shown_up rel).1 Px.refl).anyPh hn
    · cases h
  cases d with
  | hnd i =>
    obtain ⟨a, rfl, hi⟩ := rv.hnd_inv
    have h : (match st[i]? with
      | some (.lst xs) => if D.noHs xs then some (D.lst xs) else none
      | _ => none) = some x := h
    cases q : st[i]? with
    | none => rw [q] at h; cases h
    | some c =>
      rw [q] at h
      cases c with
      | dead => cases h
      | lst xs =>
        have h : (if D.noHs xs then some (D.lst xs) else none) = some x := h
        split at h
        · rename_i hn
          cases h
          obtain ⟨e0, vs, e, z⟩ := rel.cel i a _ hi q
          refine Rep.lst' (vs := vs) ?_ ((z.mono (shown_up rel).1 Px.refl).anyPh hn)
          unfold shown
          rw [if_pos ⟨i, xs, hi, q⟩]
          exact e
        · cases h
  | non => exact plain _ rv h
  | bl b => exact plain _ rv h
  | int i => exact plain _ rv h
  | str s => exact plain _ rv h
  | ty n => exact plain _ rv h
  | glo n => exact plain _ rv h
  | tup xs => exact plain _ rv h
  | lst xs => exact plain _ rv h
  | scr xs => exact plain _ rv h
  | dic xs => exact plain _ rv h
  | obj c xs => exact plain _ rv h
theorem snaps_rep {w : Wd} {st : Sto} (rel : Rel G w st) : ∀ {vs : List V} {ds xs : List D}, Reps G w.I w.ph vs ds → snaps st ds = some xs → Reps G (shown w st) [] vs xs
  | vs, [], xs, rs, h => by
    have h : some [] = some xs := h
    cases h
    rw [rs.inv_nil']
    exact Reps.nil
  | vs, d :: ds, xs, rs, h => by
    obtain ⟨v, vs', rfl, r1, r2⟩ := rs.inv_cons'
    have h : (match snap st d, snaps st ds with
      | some x, some xs => some (x :: xs)
      | _, _ => none) = some xs := h
    cases q1 : snap st d with
    | none => rw [q1] at h; cases h
    | some x =>
      cases q2 : snaps st ds with
      | none => rw [q1, q2] at h; cases h
      | some ys =>
        rw [q1, q2] at h
        cases h
        exact Reps.cons (snap_rep rel r1 q1) (snaps_rep rel r2 q2)
theorem call_snap {w : Wd} {st : Sto} {f : FF} {vs : List V} {ds : List D} {Q : VK} {E : XK} {n : Nat} (rel : Rel G w st) (rs : Reps G (shown w st) [] vs ds) (hl : vs.length = n)
    (h : Post G (RE G) w (callR st false (f [] ds)) Q E) : spD G n f vs w.H Q E := by
  refine ⟨hl, ⟨shown w st, [], w.H⟩, [], ds, rfl, ⟨(shown_up rel).2, rfl, List.nodup_nil, fun i a c hi _ => by simp at hi⟩, rs, ?_⟩
  cases q : f [] ds with
  | ok d st' =>
    rw [q] at h
    cases st' with
    | nil =>
      intro w' v s r rv
      have h : Post G (RE G) w (if (false || d.noL) = true then Res.ok d st else Res.stk) Q E := h
      split at h
      · rename_i hn
        have hn : d.noL = true := hn
        have key : ∀ a, Live w st a → ∃ vs, w'.I a = some (.lst vs) := fun a ha => by
          obtain ⟨_, us, e⟩ := live_at rel ha
          exact ⟨us, s.im a _ (by show shown w st a = _; unfold shown; rw [if_pos ha]; exact e)⟩
        have sub : Evl.Ex (hidden w st w'.I) w'.H := fun a o e => by
          unfold hidden at e
          by_cases ha : Live w st a
          · rw [if_pos ha] at e; cases e
          · rw [if_neg ha] at e; exact r.sub a o e
        have im : Evl.Ex w.I (hidden w st w'.I) := fun a o e => by
          unfold hidden
          by_cases ha : Live w st a
          · rw [(live_at rel ha).1] at e; cases e
          · rw [if_neg ha]
            exact s.im a o ((shown_up rel).1 a o e)
        refine h ⟨hidden w st w'.I, w.ph, w'.H⟩ v ⟨im, Px.refl, fun a o e => ?_, fun _ h => .inl h, fun a o e _ => s.keep a o e (by simp), s.live⟩ ⟨sub, rel.len, rel.nd, fun i a c hi hs => ?_⟩ (rv.noLists hn fun a o e => ?_)
        · have e : hidden w st w'.I a = some o := e
          unfold hidden at e
          by_cases ha : Live w st a
          · rw [if_pos ha] at e; cases e
          · rw [if_neg ha] at e
            rcases s.newI a o e with z | z | z
            · have z : shown w st a = some o := z
              unfold shown at z
              rw [if_neg ha] at z
              exact .inl z
            · exact .inr (.inl z)
            · exact absurd z (by simp)
        · have k := rel.cel i a c hi hs
          cases c with
          | lst xs =>
            obtain ⟨e0, us, e, z⟩ := k
            refine ⟨?_, us, s.keep _ _ e (by simp), z.mono im Px.refl⟩
            show hidden w st w'.I a = none
            unfold hidden
            rw [if_pos ⟨i, xs, hi, hs⟩]
          | dead =>
            obtain ⟨u, e⟩ := k
            exact ⟨u, s.keep _ _ e (by simp)⟩
        · by_cases ha : Live w st a
          · obtain ⟨us, z⟩ := key a ha
            rw [e] at z
            exact .inl ⟨us, Option.some.inj z⟩
          · refine .inr ?_
            show hidden w st w'.I a = some o
            unfold hidden
            rw [if_neg ha]
            exact e
      · exact (show False from h).elim
    | cons _ _ => exact (show False from h).elim
  | ex c st' =>
    rw [q] at h
    cases st' with
    | nil => exact (show False from h).elim
    | cons _ _ => exact (show False from h).elim
  | stk =>
    rw [q] at h
    exact (show False from h).elim
theorem call_bag {w : Wd} {st : Sto} {f : FF} {v : V} {vs : List V} {ds : List D} {xs : List D} {i : Nat} {Q : VK} {E : XK} {n : Nat} (rel : Rel G w st) (rv : Rep G w.I w.ph v (.hnd i)) (hs : st[i]? = some (.lst xs)) (hx : D.noHs xs = true)
    (rs : Reps G w.I w.ph vs ds) (hn : D.noHs ds = true) (hl : (v :: vs).length = n) (h : Post G (RE G) w (callB st i (f [.lst xs] (.hnd 0 :: ds))) Q E) : spD G n f (v :: vs) w.H Q E := by
  obtain ⟨a, rfl, hi⟩ := rv.hnd_inv
  obtain ⟨e0, us, e, z⟩ := rel.cel i a _ hi hs
  have one : ∀ (j : Nat) (b : Addr), ([a] : List Addr)[j]? = some b → j = 0 ∧ b = a := fun j b hj => by
    cases j with
    | zero => simp at hj; exact ⟨rfl, hj.symm⟩
    | succ j => simp at hj
  refine ⟨hl, ⟨w.I, [a], w.H⟩, [.lst xs], .hnd 0 :: ds, rfl, ⟨rel.sub, rfl, by simp, fun j b c hj hc => ?_⟩, Reps.cons (.hnd rfl) (rs.anyPh hn), ?_⟩
  · obtain ⟨rfl, rfl⟩ := one j b hj
    simp at hc
    subst hc
    exact ⟨e0, us, e, z.anyPh hx⟩
  · cases q : f [.lst xs] (.hnd 0 :: ds) with
    | ok d st' =>
      rw [q] at h
      cases st' with
      | nil => exact (show False from h).elim
      | cons c r =>
        cases r with
        | cons _ _ => cases c <;> exact (show False from h).elim
        | nil =>
          cases c with
          | dead => exact (show False from h).elim
          | lst ys =>
            intro w' v s r rv'
            have h : Post G (RE G) w (if (d.noH && D.noHs ys) = true then Res.ok d (st.set i (.lst ys)) else Res.stk) Q E := h
            split at h
            · rename_i hh
              rw [Bool.and_eq_true] at hh
              have hph : w'.ph = [a] := by
                have l := r.len
                have p := s.px 0 a rfl
                cases q2 : w'.ph with
                | nil => rw [q2] at l; cases l
                | cons b t =>
                  rw [q2] at l p
                  cases t with
                  | nil => simp at p; rw [p]
                  | cons _ _ => simp at l
              obtain ⟨f0, us', f1, f2⟩ := r.cel 0 a _ (by rw [hph]; rfl) rfl
              refine h ⟨w'.I, w.ph, w'.H⟩ v ⟨s.im, Px.refl, fun b o hb => ?_, fun _ h => .inl h, fun b o hb nb => s.keep b o hb fun m => nb ?_, s.live⟩ ⟨r.sub, by rw [List.length_set]; exact rel.len, rel.nd, fun j b c hj hc => ?_⟩ (rv'.anyPh hh.1)
              · rcases s.newI b o hb with m | m | m
                · exact .inl m
                · exact .inr (.inl m)
                · refine .inr (.inr ?_)
                  have m : b ∈ [a] := m
                  simp at m
                  rw [m]
                  exact List.mem_of_getElem? hi
              · have m : b ∈ [a] := m
                simp at m
                rw [m]
                exact List.mem_of_getElem? hi
              · have hj : w.ph[j]? = some b := hj
                by_cases ej : i = j
                · subst ej
                  rw [hi] at hj
                  cases hj
                  have hlt : i < st.length := (List.getElem?_eq_some_iff.mp hs).1
                  rw [List.getElem?_set_self hlt] at hc
                  cases hc
                  exact ⟨f0, us', f1, f2.anyPh hh.2⟩
                · rw [List.getElem?_set_ne ej] at hc
                  have hb : b ≠ a := fun zz => by
                    subst zz
                    obtain ⟨h1, e1⟩ := List.getElem?_eq_some_iff.mp hi
                    obtain ⟨h2, e2⟩ := List.getElem?_eq_some_iff.mp hj
                    exact ej ((List.getElem_inj rel.nd).mp (e1.trans e2.symm))
                  have nb : b ∉ ([a] : List Addr) := by simpa using hb
                  have k := rel.cel j b c hj hc
                  cases c with
                  | lst zs =>
                    obtain ⟨g0, gs, g1, g2⟩ := k
                    refine ⟨?_, gs, s.keep _ _ g1 nb, g2.mono s.im Px.refl⟩
                    show w'.I b = none
                    cases q3 : w'.I b with
                    | none => rfl
                    | some o =>
                      rcases s.newI b o q3 with m | m | m
                      · rw [show (⟨w.I, [a], w.H⟩ : Wd).I b = w.I b from rfl, g0] at m; cases m
                      · rw [show (⟨w.I, [a], w.H⟩ : Wd).H b = w.H b from rfl, g1] at m; cases m
                      · exact absurd m nb
                  | dead =>
                    obtain ⟨u, e⟩ := k
                    exact ⟨u, s.keep _ _ e nb⟩
            · exact (show False from h).elim
    | ex c st' =>
      rw [q] at h
      exact (show False from h).elim
    | stk =>
      rw [q] at h
      exact (show False from h).elim
end
end DS
namespace DS
open PySem PySem.Spec PyProof.Rows L2

/-! ### reading sequences -/
def cellAt (st : Sto) (i : Nat) : Option (List D) := match st[i]? with
  | some (.lst xs) => some xs
  | _ => none
def tupOf : D → Option (List D)
  | .tup xs => some xs
  | _ => none
/-- a list that is tracked -/
def lstH (st : Sto) : D → Option (List D)
  | .lst xs => some xs
  | .hnd i => cellAt st i
  | _ => none
def lstOf (st : Sto) : D → Option (List D)
  | .scr xs => some xs
  | d => lstH st d
def seqOf (st : Sto) : D → Option (List D)
  | .tup xs => some xs
  | d => lstOf st d
section
variable {G : Md} {w : Wd} {st : Sto} {v : V} {d : D} {xs : List D}
theorem cell_rep {i : Nat} (rel : Rel G w st) (h : Rep G w.I w.ph v (.hnd i)) (e : cellAt st i = some xs) : ∃ a vs, v = .ref a ∧ w.ph[i]? = some a ∧ w.I a = none ∧ w.H a = some (.lst vs) ∧ Reps G w.I w.ph vs xs := by
  obtain ⟨a, rfl, hi⟩ := h.hnd_inv
  unfold cellAt at e
  cases q : st[i]? with
  | none => rw [q] at e; cases e
  | some c =>
    rw [q] at e
    cases c with
    | dead => cases e
    | lst ys =>
      cases e
      obtain ⟨e0, vs, e1, e2⟩ := rel.cel i a _ hi q
      exact ⟨a, vs, rfl, hi, e0, e1, e2⟩
theorem tup_rep (rel : Rel G w st) (h : Rep G w.I w.ph v d) (e : tupOf d = some xs) : ∃ a vs, v = .ref a ∧ SqT G.K w.H a vs ∧ Reps G w.I w.ph vs xs := by
  cases d with
  | tup ys =>
    cases e
    obtain ⟨a, vs, rfl, h1, h2⟩ := h.tup_inv
    exact ⟨a, vs, rfl, Evl.ex_t rel.sub h1, h2⟩
  | _ => cases e
theorem lstH_rep (rel : Rel G w st) (h : Rep G w.I w.ph v d) (e : lstH st d = some xs) : ∃ a vs, v = .ref a ∧ w.H a = some (.lst vs) ∧ Reps G w.I w.ph vs xs := by
  cases d with
  | lst ys =>
    cases e
    obtain ⟨a, vs, rfl, h1, h2⟩ := h.lst_inv
    exact ⟨a, vs, rfl, rel.sub _ _ h1, h2⟩
  | hnd i =>
    obtain ⟨a, vs, e1, _, _, e2, e3⟩ := cell_rep rel h e
    exact ⟨a, vs, e1, e2, e3⟩
  | _ => cases e
theorem lst_rep (rel : Rel G w st) (h : Rep G w.I w.ph v d) (e : lstOf st d = some xs) : ∃ a vs, v = .ref a ∧ SqL G.K w.H a vs ∧ Reps G w.I w.ph vs xs := by
  cases d with
  | scr ys =>
    cases e
    cases h with
    | scr h1 h2 h3 => exact ⟨_, _, rfl, Evl.ex_l rel.sub h1, h2, h3⟩
  | lst ys =>
    obtain ⟨a, vs, e1, e2, e3⟩ := lstH_rep rel h e
    exact ⟨a, vs, e1, SqL.of e2, e3⟩
  | hnd i =>
    obtain ⟨a, vs, e1, e2, e3⟩ := lstH_rep rel h e
    exact ⟨a, vs, e1, SqL.of e2, e3⟩
  | _ => cases e
theorem seq_rep (rel : Rel G w st) (h : Rep G w.I w.ph v d) (e : seqOf st d = some xs) : ∃ a vs, v = .ref a ∧ (SqL G.K w.H a vs ∨ SqT G.K w.H a vs) ∧ Reps G w.I w.ph vs xs := by
  cases d with
  | tup ys =>
    obtain ⟨a, vs, e1, e2, e3⟩ := tup_rep rel h (show tupOf (.tup ys) = some xs from e)
    exact ⟨a, vs, e1, .inr e2, e3⟩
  | scr ys =>
    obtain ⟨a, vs, e1, e2, e3⟩ := lst_rep rel h e
    exact ⟨a, vs, e1, .inl e2, e3⟩
  | lst ys =>
    obtain ⟨a, vs, e1, e2, e3⟩ := lst_rep rel h e
    exact ⟨a, vs, e1, .inl e2, e3⟩
  | hnd i =>
    obtain ⟨a, vs, e1, e2, e3⟩ := lst_rep rel h e
    exact ⟨a, vs, e1, .inl e2, e3⟩
  | _ => cases e
theorem int_rep {i : Int} (h : Rep G w.I w.ph v (.int i)) : v = .int i := by
  cases h with
  | int => rfl
theorem bl_rep {b : Bool} (h : Rep G w.I w.ph v (.bl b)) : v = .bl b := by
  cases h with
  | bl => rfl
theorem str_rep {s : Str} (h : Rep G w.I w.ph v (.str s)) : v = .str s := by
  cases h with
  | str => rfl
theorem non_rep (h : Rep G w.I w.ph v .non) : v = .non := by
  cases h with
  | non => rfl
end

/-! ### operators -/
def isInt : D → Option Int
  | .int i => some i
  | _ => none
def ints2 (g : Int → Int → Option D) : Sto → D → D → Option D := fun _ x y => match x, y with
  | .int i, .int j => g i j
  | _, _ => none
theorem opd_ints {G : Md} {r : R2} {g : Int → Int → Option D} (h : ∀ i j d (H : Hp) (Q : VK), g i j = some d → (∀ v, (∀ I ph, Rep G I ph v d) → Q v H) → r (.int i) (.int j) H Q) : OpD G r (ints2 g) := by
  intro w st x y dx dy d Q rel rx ry e q
  unfold ints2 at e
  split at e
  · rename_i i j
    rw [int_rep rx, int_rep ry]
    exact h i j d w.H Q e fun v hv => q w v (Step.refl w) rel (hv _ _)
  · cases e
theorem OpD.or {G : Md} {r r' : R2} {g g' : Sto → D → D → Option D} (h : OpD G r g) (h' : OpD G r' g') : OpD G (fun x y H Q => r x y H Q ∨ r' x y H Q) (fun st x y => (g st x y).or (g' st x y)) := by
  intro w st x y dx dy d Q rel rx ry e q
  have e : (g st dx dy).or (g' st dx dy) = some d := e
  cases h1 : g st dx dy with
  | some d' =>
    rw [h1] at e
    have e : some d' = some d := e
    cases e
    exact .inl (h w st x y dx dy d Q rel rx ry h1 q)
  | none =>
    rw [h1] at e
    exact .inr (h' w st x y dx dy d Q rel rx ry e q)
section
variable {G : Md}
theorem d_add : OpD G (rI0 fun i j => .int (i + j)) (ints2 fun i j => some (.int (i + j))) := opd_ints fun i j d H Q e q => ⟨i, j, rfl, rfl, q _ fun I ph => by cases e; exact .int _⟩
theorem d_sub : OpD G (rI0 fun i j => .int (i - j)) (ints2 fun i j => some (.int (i - j))) := opd_ints fun i j d H Q e q => ⟨i, j, rfl, rfl, q _ fun I ph => by cases e; exact .int _⟩
def small64 (i : Int) : Bool := decide (-(2 ^ 64) < i) && decide (i < 2 ^ 64)
def mulI (i j : Int) : Option D := if small64 i || (small64 j || decide (i.natAbs.log2 + j.natAbs.log2 < 1000000)) then some (.int (i * j)) else none
theorem mulI_ok {i j : Int} {d : D} (e : mulI i j = some d) : d = .int (i * j) ∧ (CMul i j ∨ CMulW i j) := by
  unfold mulI at e
  split at e
  · rename_i h
    cases e
    refine ⟨rfl, ?_⟩
    simp only [small64, Bool.or_eq_true, Bool.and_eq_true, decide_eq_true_eq] at h
    rcases h with h | h | h
    · exact .inl (.inl h)
    · exact .inl (.inr h)
    · exact .inr h
  · cases e
def rMulI : R2 := fun x y H Q => rI CMul (fun i j => .int (i * j)) x y H Q ∨ rI CMulW (fun i j => .int (i * j)) x y H Q
theorem op_mulI {X : Cx} : OpR X (binaryOp .Mult) rMulI := op_mul.or op_mulW
theorem d_mul : OpD G rMulI (ints2 mulI) := opd_ints fun i j d H Q e q => by
  obtain ⟨rfl, h | h⟩ := mulI_ok e
  · exact .inl ⟨i, j, rfl, rfl, h, q _ fun I ph => .int _⟩
  · exact .inr ⟨i, j, rfl, rfl, h, q _ fun I ph => .int _⟩
def modI (i j : Int) : Option D := if 0 < j then some (.int (i % j)) else none
theorem d_mod : OpD G (rI (fun _ j => 0 < j) fun i j => .int (i % j)) (ints2 modI) := opd_ints fun i j d H Q e q => by
  unfold modI at e
  split at e
  · rename_i h
    cases e
    exact ⟨i, j, rfl, rfl, h, q _ fun I ph => .int _⟩
  · cases e
def divI (i j : Int) : Option D := if 0 < j ∧ j.natAbs.log2 < 9000 then some (.int (i / j)) else none
theorem d_fdiv : OpD G (rI CDivW fun i j => .int (i / j)) (ints2 divI) := opd_ints fun i j d H Q e q => by
  unfold divI at e
  split at e
  · rename_i h
    cases e
    exact ⟨i, j, rfl, rfl, h, q _ fun I ph => .int _⟩
  · cases e
def powI (i j : Int) : Option D := if 0 ≤ j ∧ j ≤ 1000000 ∧ i.natAbs < 2 ^ 64 then some (.int (i ^ j.toNat)) else none
theorem d_pow : OpD G (rI CPow fun i j => .int (i ^ j.toNat)) (ints2 powI) := opd_ints fun i j d H Q e q => by
  unfold powI at e
  split at e
  · rename_i h
    cases e
    exact ⟨i, j, rfl, rfl, h, q _ fun I ph => .int _⟩
  · cases e
theorem d_lt : OpD G (rI0 fun i j => .bl (decide (i < j))) (ints2 fun i j => some (.bl (decide (i < j)))) := opd_ints fun i j d H Q e q => ⟨i, j, rfl, rfl, q _ fun I ph => by cases e; exact .bl _⟩
theorem d_le : OpD G (rI0 fun i j => .bl (decide (i ≤ j))) (ints2 fun i j => some (.bl (decide (i ≤ j)))) := opd_ints fun i j d H Q e q => ⟨i, j, rfl, rfl, q _ fun I ph => by cases e; exact .bl _⟩
theorem d_gt : OpD G (rI0 fun i j => .bl (decide (j < i))) (ints2 fun i j => some (.bl (decide (j < i)))) := opd_ints fun i j d H Q e q => ⟨i, j, rfl, rfl, q _ fun I ph => by cases e; exact .bl _⟩
theorem d_ge : OpD G (rI0 fun i j => .bl (decide (j ≤ i))) (ints2 fun i j => some (.bl (decide (j ≤ i)))) := opd_ints fun i j d H Q e q => ⟨i, j, rfl, rfl, q _ fun I ph => by cases e; exact .bl _⟩
def negD : Sto → D → Option D := fun _ x => match x with
  | .int i => some (.int (-i))
  | _ => none
theorem d_neg : UnD G (rU fun i => .int (-i)) negD := by
  intro w st x dx d Q rel rx e q
  unfold negD at e
  split at e
  · rename_i i
    cases e
    rw [int_rep rx]
    exact ⟨i, rfl, q w _ (Step.refl w) rel (.int _)⟩
  · cases e
/-- tuple + tuple -/
def catT : Sto → D → D → Option D := fun _ x y => match x, y with
  | .tup xs, .tup ys => if xs.length + ys.length ≤ lineN then some (.tup (xs ++ ys)) else none
  | _, _ => none
theorem d_catT : OpD G (rCatA G.K) catT := by
  intro w st x y dx dy d Q rel rx ry e q
  unfold catT at e
  split at e
  · rename_i xs ys
    split at e
    · rename_i hl
      cases e
      obtain ⟨a, vs, rfl, h1, h2⟩ := rx.tup_inv
      obtain ⟨b, us, rfl, k1, k2⟩ := ry.tup_inv
      refine ⟨a, b, vs, us, rfl, rfl, Evl.ex_t rel.sub h1, Evl.ex_t rel.sub k1, line_ok (by rw [h2.1, k2.1]; exact hl), fun z => ?_, fun _ z => ?_, fun _ _ p hp => ?_⟩
      · subst z
        have : xs = [] := List.length_eq_zero_iff.mp (by rw [← h2.1]; rfl)
        subst this
        exact q w _ (Step.refl w) rel ry
      · subst z
        have : ys = [] := List.length_eq_zero_iff.mp (by rw [← k2.1]; rfl)
        subst this
        rw [List.append_nil] at q
        exact q w _ (Step.refl w) rel rx
      · exact q (w.addI p (.tup (vs ++ us))) _ (step_addI rel hp) (rel.addI hp) (Rep.tup' (SqT.of upd_same) ((h2.append k2).step (step_addI rel hp)))
    · cases e
  · cases e
def addStr : Sto → D → D → Option D := fun _ x y => match x, y with
  | .str a, .str b => if a.length + b.length ≤ lineN then some (.str (a ++ b)) else none
  | _, _ => none
def rAddStr : R2 := fun x y H Q => ∃ i j, x = .str i ∧ y = .str j ∧ i.length + j.length ≤ sizeLine ∧ Q (.str (i ++ j)) H
theorem d_addStr : OpD G rAddStr addStr := by
  intro w st x y dx dy d Q rel rx ry e q
  unfold addStr at e
  split at e
  · rename_i a b
    split at e
    · rename_i hl
      cases e
      rw [str_rep rx, str_rep ry]
      exact ⟨a, b, rfl, rfl, line_ok hl, q w _ (Step.refl w) rel (.str _)⟩
    · cases e
  · cases e
/-- + of ints, texts, tuples -/
def addD : Sto → D → D → Option D := fun st x y => ((ints2 fun i j => some (.int (i + j))) st x y).or ((addStr st x y).or (catT st x y))
def rAddD (K : PySem.W.Frag) : R2 := fun x y H Q => (rI0 fun i j => .int (i + j)) x y H Q ∨ (fun x y H Q => rAddStr x y H Q ∨ rCatA K x y H Q) x y H Q
theorem op_addD {X : Cx} : OpR X (binaryOp .Add) (rAddD X.K) := op_add.or (op_add_str.or op_catA)
theorem d_addD : OpD G (rAddD G.K) addD := d_add.or (d_addStr.or d_catT)
/-- tuple * int -/
def repT : Sto → D → D → Option D := fun _ x y => match x, y with
  | .tup xs, .int k => if xs ≠ [] ∧ 2 ≤ k ∧ k ≤ 1000 ∧ xs.length ≤ 1000 then some (.tup (List.replicate k.toNat xs).flatten) else none
  | _, _ => none
theorem Reps.flat {I : Hp} {ph : List Addr} {vs : List V} {ds : List D} (h : Reps G I ph vs ds) : ∀ n : Nat, Reps G I ph (List.replicate n vs).flatten (List.replicate n ds).flatten
  | 0 => Reps.nil
  | n + 1 => by
    rw [List.replicate_succ, List.replicate_succ, List.flatten_cons, List.flatten_cons]
    exact h.append (h.flat n)
theorem d_repT : OpD G (rRepT G.K) repT := by
  intro w st x y dx dy d Q rel rx ry e q
  unfold repT at e
  split at e
  · rename_i xs k
    split at e
    · rename_i hl
      cases e
      obtain ⟨a, vs, rfl, h1, h2⟩ := rx.tup_inv
      rw [int_rep ry]
      refine ⟨a, k, vs, rfl, rfl, Evl.ex_t rel.sub h1, fun z => hl.1 (List.length_eq_zero_iff.mp (by rw [← h2.1, z]; rfl)), hl.2.1, hl.2.2.1, by rw [h2.1]; exact hl.2.2.2, fun p hp => ?_⟩
      exact q (w.addI p (.tup (List.replicate k.toNat vs).flatten)) _ (step_addI rel hp) (rel.addI hp) (Rep.tup' (SqT.of upd_same) ((h2.flat k.toNat).step (step_addI rel hp)))
    · cases e
  · cases e
def mulD : Sto → D → D → Option D := fun st x y => (ints2 mulI st x y).or (repT st x y)
def rMulD (K : PySem.W.Frag) : R2 := fun x y H Q => rMulI x y H Q ∨ rRepT K x y H Q
theorem op_mulD {X : Cx} : OpR X (binaryOp .Mult) (rMulD X.K) := op_mulI.or op_repT
theorem d_mulD : OpD G (rMulD G.K) mulD := d_mul.or d_repT
/-- list + list, list * int: new lists -/
def fCat : Sto → D → D → Option (List D) := fun st x y => match lstH st x, lstH st y with
  | some xs, some ys => if xs.length + ys.length ≤ lineN then some (xs ++ ys) else none
  | _, _ => none
theorem f_cat : OpF G rCat fCat := by
  intro w st x y dx dy d Q rel rx ry e q
  unfold fCat at e
  split at e
  · rename_i xs ys e1 e2
    split at e
    · rename_i hl
      cases e
      obtain ⟨a, vs, rfl, h1, h2⟩ := lstH_rep rel rx e1
      obtain ⟨b, us, rfl, k1, k2⟩ := lstH_rep rel ry e2
      refine ⟨a, b, vs, us, rfl, rfl, h1, k1, line_ok (by rw [h2.1, k2.1]; exact hl), fun p hp => ?_⟩
      have k := fresh_lst (vs := vs ++ us) rel hp (h2.append k2)
      exact q ⟨w.I, w.ph, upd w.H p (.lst (vs ++ us))⟩ _ k.1 k.2 ⟨p, vs ++ us, rfl, hp, rel.notIn hp, rel.noI hp, upd_same, h2.append k2⟩
    · cases e
  · cases e
def fRep : Sto → D → D → Option (List D) := fun st x y => match lstH st x, y with
  | some xs, .int k => if -(2 ^ 63) ≤ k ∧ k < 2 ^ 63 ∧ xs.length * k.toNat ≤ lineN then some (List.replicate k.toNat xs).flatten else none
  | _, _ => none
theorem f_rep : OpF G rRep fRep := by
  intro w st x y dx dy d Q rel rx ry e q
  unfold fRep at e
  split at e
  · rename_i xs k e1
    split at e
    · rename_i hl
      cases e
      obtain ⟨a, vs, rfl, h1, h2⟩ := lstH_rep rel rx e1
      rw [int_rep ry]
      refine ⟨a, k, vs, rfl, rfl, h1, hl.1, hl.2.1, line_ok (by rw [h2.1]; exact hl.2.2), fun p hp => ?_⟩
      have k2 := fresh_lst (vs := (List.replicate k.toNat vs).flatten) rel hp (h2.flat k.toNat)
      exact q ⟨w.I, w.ph, upd w.H p (.lst (List.replicate k.toNat vs).flatten)⟩ _ k2.1 k2.2 ⟨p, _, rfl, hp, rel.notIn hp, rel.noI hp, upd_same, h2.flat k.toNat⟩
    · cases e
  · cases e
end
end DS
namespace DS
open PySem PySem.Spec PyProof.Rows L2
open AutoSeq1 (wpAny_loadPart')

/-! ### enumerate of a tuple -/
theorem newEnumT (t : Addr) (zs : Array Value) (k : Nat) (dc : Option Addr) (sl : Array (Option Value)) :
    Meets (Builtin.«enumerate.__new__» ⟨[.type "enumerate", .ref t], []⟩) (fun _ R u => u.heap.get? t = some { cls := .type "tuple", dict := dc, data := .seq zs k, slots := sl } ∧
      R (.ok (.ret (.ref (u.heap.push { cls := .type "tuple_iterator", data := .fields #[.ref t, .int 0 0] }).objs.size)))
        { u with heap := (u.heap.push { cls := .type "tuple_iterator", data := .fields #[.ref t, .int 0 0] }).push { cls := .type "enumerate", data := .fields #[.none, .bool false, .ref u.heap.objs.size, rawInt 0, .none, .none] } }) :=
  .of_wp fun prog w A R u h => by
    obtain ⟨hp, gg, dd, tk, os⟩ := u; obtain ⟨hl, h⟩ := h
    have hsub2 := sub_enumerate
    have hT : Heap.IsTuple (Shared.heap ⟨hp, gg, dd, tk, os⟩) t zs := ⟨_, hl, rfl, k, rfl⟩
    wp_walk using wpAny_loadPart' hl
    refine wpAny_stack_any fun stk => wpAny_pure ?_
    split
    · rename_i cc _ _ _ _ _
      cases (cc == Value.type "enumerate")
      · wp_walk using wpAny_loadPart' hl, wpAny_pyIter_tuple hT
        exact ⟨_, rfl, h⟩
      · wp_walk using wpAny_loadPart' hl, wpAny_pyIter_tuple hT
        exact ⟨_, rfl, h⟩
    · wp_walk using wpAny_loadPart' hl, wpAny_pyIter_tuple hT
      exact ⟨_, rfl, h⟩
theorem callEnumT {prog : Program} {w : World} {A : Around} {E : Value → Shared → Prop} {s : Shared} {t : Addr} {zs : Array Value} {Q : Value → Shared → Prop} (hT : s.heap.IsTuple t zs)
    (h : ∀ h', IsEnum h' (s.heap.objs.size + 1) s.heap.objs.size 0 .none → h'.IsTupleIter s.heap.objs.size t 0 → (∀ b o, s.heap.get? b = some o → h'.get? b = some o) → Q (.ref (s.heap.objs.size + 1)) { s with heap := h' }) :
    wpAny (model prog w) A (call (.type "enumerate") [.ref t]) Q E s := by
  obtain ⟨⟨c, dct, dt, sl⟩, hl, hc, n, hd⟩ := hT
  have hc : c = .type "tuple" := hc
  have hd : dt = .seq zs n := hd
  subst hc hd
  refine callType_new F.called_enumerate (by decide) (F.typeCall_enumerate_1 _) (F.newCall_enumerate_1 _) (fun ob => F.args_object_init_2 ob _) F.entry_enumerate_new (newEnumT t zs n dct sl) ⟨hl, ?_⟩
  have hz : (s.heap.push { cls := .type "tuple_iterator", data := .fields #[.ref t, .int 0 0] }).objs.size = s.heap.objs.size + 1 := Heap.size_push ..
  show _ ∧ _
  rw [hz]
  have he : IsEnum ((s.heap.push { cls := .type "tuple_iterator", data := .fields #[.ref t, .int 0 0] }).push { cls := .type "enumerate", data := .fields #[.none, .bool false, .ref s.heap.objs.size, rawInt 0, .none, .none] }) (s.heap.objs.size + 1) s.heap.objs.size 0 .none := by
    have z := Heap.get?_push_size (s.heap.push { cls := .type "tuple_iterator", data := .fields #[.ref t, .int 0 0] }) (o := { cls := .type "enumerate", data := .fields #[.none, .bool false, .ref s.heap.objs.size, rawInt 0, .none, .none] }) rfl
    rw [hz] at z; exact z
  exact ⟨⟨_, he, rfl⟩, h _ he ⟨_, Heap.get?_push_of_some _ (Heap.get?_push_size _ rfl), rfl, rfl⟩ fun b o x => Heap.get?_push_of_some _ (Heap.get?_push_of_some _ x)⟩
def Itu (K : PySem.W.Frag) (a : Addr) : It :=
  ⟨fun i H => ∃ (xs : List V) (x : V), SqT K H a xs ∧ xs[i]? = some x, fun i H v H' => ∃ T x, v = .ref T ∧ H T = none ∧ H' = upd H T (.tup [.int (i : Nat), x]) ∧ ∀ xs, SqT K H a xs → xs[i]? = some x, fun i H => ∃ xs : List V, SqT K H a xs ∧ xs.length ≤ i⟩
theorem turn_enumT {P : Program} {w : World} {K : PySem.W.Frag} {elts : List Expr} {kk : Nat} {tpos : Pos} (a e it : Addr) :
    Turn P w K (.Tuple elts kk tpos) (Itu K a) [e, it] e (fun i h => (∃ old, IsEnum h e it ((i : Nat) : Int) old) ∧ h.IsTupleIter it a i ∧ e ≠ it) where
  mem := by simp
  obj := fun i h st b hb => by
    obtain ⟨⟨old, he⟩, ⟨o, ho, hc, hd⟩, _⟩ := st
    rcases (by simpa using hb : b = e ∨ b = it) with z | z
    · rw [z]; exact ⟨_, he, fun v q => nomatch q⟩
    · rw [z]; exact ⟨o, ho, fun v q => by rw [hd] at q; cases q⟩
  keep := fun i h h' st k => by
    obtain ⟨⟨old, he⟩, hi, hne⟩ := st
    exact ⟨⟨old, k e (by simp) _ he⟩, hi.at fun o q => k it (by simp) o q, hne⟩
  item := by
    intro X hP hw hK hc i pins s σ H E I hf st hg
    subst hP hw hK
    obtain ⟨⟨old, he⟩, hit, hne⟩ := st
    obtain ⟨xs, x, hq, hx⟩ := hg
    obtain ⟨its, rv, p, hz⟩ := I.tuple hq
    obtain ⟨u0, hu, ru⟩ := rv.get hx
    have hel : e < s.heap.objs.size := Heap.lt_size he
    have hil : it < s.heap.objs.size := by obtain ⟨_, q, _⟩ := hit; exact Heap.lt_size q
    obtain ⟨oT, hoT, hcT, _⟩ := id p
    have hai : a ≠ it := fun z => by
      obtain ⟨o, ho, hcc, _⟩ := hit
      rw [← z, hoT] at ho
      cases ho
      rw [hcT] at hcc
      exact absurd hcc (by decide)
    have hae : a ≠ e := fun z => by
      have he : s.heap.get? e = some _ := he
      rw [← z, hoT] at he
      cases he
      exact absurd (show Value.type "enumerate" = Value.type "tuple" from hcT) (by decide)
    have Dw := Draws.tuple (prog := X.prog) (w := X.w) (A := X.A.in1) (I.ok.hd hc) it a hai its.toArray
    have hlt : i < its.toArray.size := by
      have z := (List.getElem?_eq_some_iff.mp hu).1
      simpa using z
    refine wpAny_pyNext_enum_itemD Dw he ⟨hit, p⟩ hlt hne (by simp; exact ⟨hne, fun z => hae z.symm⟩) fun u h' tk hPu ho hst' hT hsz hk => ?_
    have hPu : its.toArray[i]? = some u := hPu
    have eu : u0 = u := by simpa [hu] using hPu
    subst eu
    have hit' : h'.IsTupleIter it a (i + 1) := hst'.1
    refine ⟨_, rfl, wpAny_letOwnedTupleGo_enum (s := { s with heap := h', toks := tk + 1 }) ho fun h'' he' sb => ?_⟩
    have hT2 : h''.get? s.heap.objs.size = some { cls := .type "tuple", data := .seq #[.int i tk, u0] } := (sb.2 _ (Nat.ne_of_gt hel)).trans hT
    have new : ObjOk X.prog X.w (upd H s.heap.objs.size (.tup [.int (i : Nat), x])) h'' s.heap.objs.size (.tup [.int (i : Nat), x]) := ⟨by show 2 ≤ sizeLine; decide, [.int i tk, u0], .cons ⟨_, rfl⟩ (.cons ru .nil), ⟨_, hT2, rfl, _, rfl⟩⟩
    have I1 : Inv X pins σ (upd H s.heap.objs.size (.tup [.int (i : Nat), x])) { s with heap := h'', toks := tk + 1 } := I.turnedNew (ch := [e, it]) (fun b ob hb q => (sb.2 b (fun z => hb (by simp [z]))).trans (hk b ob (fun z => hb (by simp [z])) (fun z => hb (by simp [z])) q)) hf (Nat.le_refl _) new
    refine ⟨.ref s.heap.objs.size, _, I1, rfl, ⟨_, x, rfl, I.hok.fresh (Nat.le_refl _), rfl, fun ys hy => ?_⟩, ⟨⟨u0, ?_⟩, hit'.at fun o q => (sb.2 it (Ne.symm hne)).trans q, hne⟩, fun b hb => ?_⟩
    · rw [I.tuple_inj hy hq]; exact hx
    · have e1 : ((i + 1 : Nat) : Int) = (i : Int) + 1 := by omega
      rw [e1]; exact he'
    · have hb' : b < s.heap.objs.size := by
        rcases (by simpa using hb : b = e ∨ b = it) with z | z
        · rw [z]; exact hel
        · rw [z]; exact hil
      rw [upd_ne (Nat.ne_of_lt hb')]
      exact (hf b hb).1
  done := by
    intro X hP hw hK hc i pins s σ H E I hf st hg
    subst hP hw hK
    obtain ⟨⟨old, he⟩, hit, hne⟩ := st
    obtain ⟨xs, hq, hx⟩ := hg
    obtain ⟨its, rv, p, hz⟩ := I.tuple hq
    obtain ⟨f0, f1, f2, f3, f4, f5⟩ := hf it (by simp)
    have hl := rv.length
    obtain ⟨oT, hoT, hcT, _⟩ := id p
    have hai : a ≠ it := fun z => by
      obtain ⟨o, ho, hcc, _⟩ := hit
      rw [← z, hoT] at ho
      cases ho
      rw [hcT] at hcc
      exact absurd hcc (by decide)
    have Dw : Draws X.prog X.w X.A.in1 it [it, a] i (fun i v => its.toArray[i]? = some v) (fun k h => k = i ∧ h.IsTupleIter it a k ∧ h.IsTuple a its.toArray) := {
      live := fun _ _ z => by obtain ⟨o, ho, _⟩ := z.2.1; exact ⟨o, ho⟩
      frame := fun _ _ _ z hk => ⟨z.1, z.2.1.at fun o q => hk it (by simp) o q, z.2.2.at fun o q => hk a (by simp) o q⟩
      item := fun j s Q E hj z hQ => absurd hj (by rw [z.1]; exact Nat.lt_irrefl _)
      done := fun s Q E z hE => wpAny_nextOf_tuple_end (I.ok.hd hc) z.2.1 z.2.2 (by simp; omega) hE }
    exact wpAny_pyNext_enum_endD Dw he ⟨rfl, hit, p⟩ fun h' eb => ⟨rfl, I.turned (t' := s.toks) (fun b o hb q => eb b o hb q) f0 f1 f3 f4 f5⟩
  self := fun A i s Q E st h => by
    obtain ⟨⟨_, he⟩, _⟩ := st
    exact wpAny_pyIter_enum he h

def iEnumT (K : PySem.W.Frag) (ta : TA) : TI := fun σ H R => ta σ H fun vs H1 => ∃ a xs, vs = [.ref a] ∧ SqT K H1 a xs ∧ R (Itu K a) H1
theorem pi_enumT {X : Cx} {e : Expr} {ta : TA} {p pos tpos : Pos} {elts : List Expr} {kk : Nat} (hg : Gl X "enumerate") (hm : X.mg "enumerate" = none) (ha : PA X [e] ta) (hs : starEach [e] X.env = [(false, eval e X.env)] := by rfl) :
    PI X (.Tuple elts kk tpos) (.Call (.Name "enumerate" p) [e] [] pos) (iEnumT X.K ta) := by
  constructor
  intro pins s σ H R I h
  refine Call_ (ld_blt I hg hm boot_enumerate (PyProof.Rows.callWith_type1 (thn (ha.run pos pins s σ H _ I h) fun us s1 ⟨vs, H1, I1, r1, a, xs, ex, hq, q⟩ => ?_) hs rfl))
  subst ex
  cases r1 with
  | cons r rr =>
    cases rr
    cases r
    obtain ⟨its, rv, pt, _⟩ := I1.tuple hq
    refine callEnumT (show s1.heap.IsTuple a its.toArray from pt) fun h' he hit hk => wpAny_pyIter_enum he ?_
    refine ⟨s1.heap.objs.size + 1, [s1.heap.objs.size + 1, s1.heap.objs.size], _, _, H1, rfl, I1.kept (t' := s1.toks) hk, turn_enumT a _ s1.heap.objs.size, ⟨⟨.none, he⟩, hit, Nat.succ_ne_self _⟩, fun b hb => ?_, q⟩
    have hle : s1.heap.objs.size ≤ b := by
      rcases (by simpa using hb : b = s1.heap.objs.size + 1 ∨ b = s1.heap.objs.size) with z | z
      · rw [z]; exact Nat.le_succ _
      · exact Nat.le_of_eq z.symm
    exact (I1.kept (t' := s1.toks) hk : Inv X pins σ H1 { s1 with heap := h' }) |> fun _ => I1.fpOk hle (I1.hok.fresh hle)

/-! ### t[::-1] -/
section
variable {prog : Program} {w : World} {A : Around} {E : Value → Shared → Prop} {s : Shared}
theorem rev_places (n : Nat) : Builtin.Slice.slicePlaces ((n : Int) - 1) (-1) (-1) = n := by
  unfold Builtin.Slice.slicePlaces
  have h1 : ¬ ((-1 : Int) > 0) := by omega
  simp only [h1, if_false]
  split
  · have : -(-1 : Int) = 1 := rfl
    simp only [this, Int.ediv_one]
    omega
  · omega
theorem applied_rev {sl : Addr} {vl vu vs : Value} {n : Nat} {Q : Int × Int × Nat → Shared → Prop} (hs : s.heap.IsSliceOf sl vl vu vs) (pl : IsPart vl none) (pu : IsPart vu none) (ps : IsPart vs (some (-1)))
    (h : Q ((n : Int) - 1, -1, n) s) : wpAny (model prog w) A (Builtin.Slice.sliceApplied (.ref sl) (pure (n : Int))) Q E s := by
  obtain ⟨os, hos, _, hds⟩ := id hs
  unfold Builtin.Slice.sliceApplied Builtin.Slice.sliceFields
  refine wpAny_bind (wpAny_bind (wpAny_field hos hds (x := vl) rfl (wpAny_bind (wpAny_field hos hds (x := vu) rfl (wpAny_bind (wpAny_field hos hds (x := vs) rfl (wpAny_pure ?_)))))))
  refine wpAny_bind (HT.slicePart_ ps ?_)
  show wpAny _ _ (if ((-1 : Int) == 0) = true then _ else _) _ _ s
  rw [if_neg (by decide)]
  refine wpAny_bind (HT.slicePart_ pl (wpAny_bind (HT.slicePart_ pu (wpAny_bind (wpAny_pure ?_)))))
  show wpAny _ _ (pure ((n : Int) - 1, (-1 : Int), Builtin.Slice.slicePlaces ((n : Int) - 1) (-1) (-1))) _ _ s
  rw [rev_places]
  exact wpAny_pure h
theorem rev_pick (xs : Array Value) : ((List.range xs.size).filterMap fun (m : Nat) => xs[(((xs.size : Int) - 1) + (m : Int) * (-1)).toNat]?).toArray = xs.toList.reverse.toArray := by
  congr 1
  apply List.ext_getElem?
  intro i
  have e : (List.range xs.size).filterMap (fun (m : Nat) => xs[(((xs.size : Int) - 1) + (m : Int) * (-1)).toNat]?) = (List.range xs.size).map fun m => xs.getD (xs.size - 1 - m) .none := by
    have go : ∀ l : List Nat, (∀ m ∈ l, m < xs.size) → l.filterMap (fun (m : Nat) => xs[(((xs.size : Int) - 1) + (m : Int) * (-1)).toNat]?) = l.map fun m => xs.getD (xs.size - 1 - m) .none := by
      intro l hl
      induction l with
      | nil => rfl
      | cons m r ih =>
        have hm : m < xs.size := hl m (by simp)
        have z : (((xs.size : Int) - 1) + (m : Int) * (-1)).toNat = xs.size - 1 - m := by omega
        have hl2 : xs.size - 1 - m < xs.size := by omega
        rw [List.filterMap_cons, z, ih fun q hq => hl q (by simp [hq])]
        simp [Array.getD, hl2]
    exact go _ fun m hm => List.mem_range.mp hm
  rw [e, List.getElem?_map]
  by_cases hi : i < xs.size
  · rw [List.getElem?_range hi, List.getElem?_reverse (by simpa using hi)]
    have hl : xs.size - 1 - i < xs.size := by omega
    simp [Array.getD, hl]
  · rw [List.getElem?_eq_none (by simpa using hi), List.getElem?_eq_none (by simpa using hi)]
    rfl
theorem getRevT {t sl : Addr} {items : Array Value} {vl vu vs : Value} {Q : Value → Shared → Prop} (ht : IsTup s.heap t items) (hs : s.heap.IsSliceOf sl vl vu vs) (pl : IsPart vl none) (pu : IsPart vu none) (ps : IsPart vs (some (-1)))
    (hsz : items.size ≤ sizeLine) (h : Q (.ref s.heap.objs.size) { s with heap := s.heap.push { cls := .type "tuple", data := .seq items.toList.reverse.toArray } }) : wpAny (model prog w) A (getItem (.ref t) (.ref sl)) Q E s := by
  have hsl : s.TypeIs (.ref sl) "slice" := by
    obtain ⟨os, a, b, _⟩ := id hs
    exact ⟨os, a, b⟩
  have hfit : sizeOk (.seq items.toList.reverse.toArray) := by
    show items.toList.reverse.toArray.size ≤ sizeLine
    simpa using hsz
  unfold getItem
  try with_reducible refine wpAny_holding ?_
  first | refine wpAny_bind (wpAny_pure ?_) | skip
  refine wpAny_bind (wpAny_sequenceKey ht.typeIs (by decide) (wpAny_bind (wpAny_callSpecial?_slot (name := Str.ofString "__getitem__") ht.typeIs PyProof.Rows.slot_tuple_getitem (wpAny_call_entry PyProof.Rows.slot_tuple_getitem ht.typeIs PyProof.Rows.entry_tuple_getitem ?_ (PyProof.Rows.args_tuple_getitem _ _)))))
  show wpAny _ _ (Builtin.Tuple.tupleItemsOf (.ref t) >>= _) _ _ s
  refine wpAny_bind (PyProof.Rows.tupleItemsOf_ ht (wpAny_bind (wpAny_typeOf hsl ?_)))
  rw [if_pos (by decide)]
  refine wpAny_bind (applied_rev hs pl pu ps ?_)
  have hno : ¬ ((((items.size : Int) - 1) == 0 && (-1 : Int) == 1 && items.size == items.size) = true) := by
    intro q
    rw [Bool.and_eq_true, Bool.and_eq_true] at q
    exact absurd q.1.2 (by decide)
  show wpAny _ _ (if (((items.size : Int) - 1) == 0 && (-1 : Int) == 1 && items.size == items.size) = true then _ else _) _ _ s
  rw [if_neg hno, rev_pick]
  first
    | exact wpAny_bind (m := Builtin.Tuple.tupleExact _) (wpAny_newObj_type (wpAny_pure ⟨_, rfl, wpAny_pure h⟩) hfit)
    | exact wpAny_bind (m := Builtin.Tuple.tupleExact _) (wpAny_newObj_type (wpAny_bind (wpAny_pure (wpAny_pure ⟨_, rfl, wpAny_pure h⟩))) hfit)
    | exact wpAny_bind (wpAny_bind (m := Builtin.Tuple.tupleExact _) (wpAny_newObj_type (wpAny_pure (wpAny_pure ⟨_, rfl, wpAny_pure h⟩)) hfit))
    | exact wpAny_bind (wpAny_bind (m := Builtin.Tuple.tupleExact _) (wpAny_newObj_type (wpAny_pure ⟨_, rfl, wpAny_pure h⟩) hfit))
end
def tRevT (K : PySem.W.Frag) (te : TE) : TE := fun σ H Q => te σ H fun x H1 => ∃ a xs, x = .ref a ∧ SqT K H1 a xs ∧ ∀ p, H1 p = none → Q (.ref p) (upd H1 p (.tup xs.reverse))
theorem pe_revT {X : Cx} {e : Expr} {te : TE} {k : Nat} {p1 p2 p3 pos : Pos} (he : PE X e te) : PE X (.Subscript e (.Slice none none (some (.UnaryOp .USub (.Constant (.int 1) k p1) p2)) p3) pos) (tRevT X.K te) := by
  constructor
  intro pins s σ H Q I h
  refine Subscript_ (thn (he.run pins s σ H _ I h) fun v s1 ⟨x, H1, I1, r1, a, xs, ex, hx, q⟩ => ?_)
  subst ex
  cases r1
  have one : PO X (some (.UnaryOp .USub (.Constant (.int 1) k p1) p2)) (tPart (tUn (rU fun i => .int (-i)) (tC (.int 1)))) := po_some (pe_un un_neg pe_int)
  refine wpAny_Slice (thn (po_none.run pins s1 σ H1 (fun o H2 => o = none ∧ H2 = H1) I1 ⟨rfl, rfl⟩) fun vl s2 ⟨_, _, I2, pl, rfl, rfl⟩ => thn (po_none.run pins s2 σ _ (fun o H3 => o = none ∧ H3 = _) I2 ⟨rfl, rfl⟩) fun vu s3 ⟨_, _, I3, pu, rfl, rfl⟩ => ?_)
  refine thn (one.run pins s3 σ _ (fun o H4 => o = some (-1) ∧ H4 = _) I3 ⟨1, rfl, -1, rfl, rfl, rfl⟩) fun vs s4 ⟨_, _, I4, ps, rfl, rfl⟩ => ?_
  have I5 := I4.kept (t' := s4.toks) (h' := s4.heap.push { cls := .type "slice", data := .fields #[vl, vu, vs] }) fun b ob z => Heap.get?_push_of_some _ z
  obtain ⟨its, r, ht, hz⟩ := I5.tuple hx
  show wpAny (model X.prog X.w) X.A (subscriptTail e (.Slice none none (some (.UnaryOp .USub (.Constant (.int 1) k p1) p2)) p3) (.ref a) (.ref s4.heap.objs.size)) (EP X pins σ Q) X.xe { s4 with heap := s4.heap.push { cls := .type "slice", data := .fields #[vl, vu, vs] } }
  refine tail_any (ops := [.ref a, .ref s4.heap.objs.size]) ht.typeIs PyProof.Rows.slot_tuple_getitem.lookup ?_ (by with_unfolding_all rfl)
  refine getRevT ht (Heap.IsSliceOf.new _ vl vu vs) pl pu ps (by rw [List.size_toArray, ← r.length]; exact hz) ?_
  refine ⟨.ref _, _, I5.laid (t' := s4.toks) (o := .tup xs.reverse) (fun b ob z => Heap.get?_push_of_some _ z) (Nat.le_refl _) ?_, rfl, q _ (I5.hok.fresh (Nat.le_refl _))⟩
  exact ⟨by rw [List.length_reverse]; exact hz, _, r.reverse, IsTup.new _ _⟩

/-! ### repr of what is flat -/
theorem cl_repr {X : Cx} : CallR X (.builtin "repr") (fun xs H Q => (∃ b, xs = [.bl b] ∧ Q (.str (if b then "True" else "False")) H) ∨ (∃ i, xs = [.int i] ∧ i.natAbs.log2 < 1920 ∧ Q (.str (toString i)) H) ∨ (xs = [.non] ∧ Q (.str "None") H)) := by
  intro pins s σ H xs us Q I r h
  rcases h with ⟨b, rfl, q⟩ | ⟨i, rfl, hz, q⟩ | ⟨rfl, q⟩
  · obtain ⟨u, rfl, ru⟩ := vals1 r
    cases ru
    exact PySem.P.repr_of_bool ⟨.str _, H, I.tok _, ⟨_, rfl⟩, q⟩
  · obtain ⟨u, rfl, t, rfl⟩ := vals1 r
    exact PySem.P.repr_of_int hz ⟨.str _, H, I.tok _, ⟨_, rfl⟩, q⟩
  · obtain ⟨u, rfl, ru⟩ := vals1 r
    cases ru
    exact PySem.P.repr_of_none ⟨.str _, H, I.tok _, ⟨_, rfl⟩, q⟩
/-! ### one of two rules -/
theorem or_pe {X : Cx} {e : Expr} {t u : TE} (a : PE X e t) (b : PE X e u) : PE X e (fun σ H Q => t σ H Q ∨ u σ H Q) := ⟨fun pins s σ H Q I h => h.elim (a.run pins s σ H Q I) (b.run pins s σ H Q I)⟩
theorem or_pi {X : Cx} {tg e : Expr} {t u : TI} (a : PI X tg e t) (b : PI X tg e u) : PI X tg e (fun σ H Q => t σ H Q ∨ u σ H Q) := ⟨fun pins s σ H Q I h => h.elim (a.run pins s σ H Q I) (b.run pins s σ H Q I)⟩
end DS
namespace DS
open PySem PySem.Spec PyProof.Rows L2

/-! ### == of data -/
mutual
def pyD : D → Option PyData
  | .non => some .none
  | .bl b => some (.bool b)
  | .int i => some (.int i)
  | .str s => some (.str s)
  | .tup xs => (pyDs xs).map .tuple
  | .lst xs => (pyDs xs).map .list
  | .scr xs => (pyDs xs).map .list
  | _ => none
def pyDs : List D → Option (List PyData)
  | [] => some []
  | x :: xs => match pyD x, pyDs xs with
    | some a, some as => some (a :: as)
    | _, _ => none
end
def pyH (st : Sto) : D → Option PyData
  | .hnd i => match cellAt st i with
    | some xs => (pyDs xs).map .list
    | none => none
  | d => pyD d
theorem dpAll_of {K : PySem.W.Frag} {H : Hp} : ∀ {vs : List V} {ds : List D} {ps : List PyData}, vs.length = ds.length → (∀ (i : Nat) v d, vs[i]? = some v → ds[i]? = some d → ∀ p, pyD d = some p → Dp K H v p) → pyDs ds = some ps → DpAll K H vs ps
  | [], [], ps, _, _, e => by cases (show some [] = some ps from e); exact .nil
  | [], _ :: _, _, h, _, _ => by cases h
  | _ :: _, [], _, h, _, _ => by cases h
  | v :: vs, d :: ds, ps, h, k, e => by
    have e : (match pyD d, pyDs ds with
      | some a, some as => some (a :: as)
      | _, _ => none) = some ps := e
    cases q1 : pyD d with
    | none => rw [q1] at e; cases e
    | some a =>
      cases q2 : pyDs ds with
      | none => rw [q1, q2] at e; cases e
      | some as =>
        rw [q1, q2] at e
        cases e
        exact .cons (k 0 v d rfl rfl a q1) (dpAll_of (by simpa using h) (fun i x y a b => k (i + 1) x y (by simpa using a) (by simpa using b)) q2)
theorem py_rep {G : Md} {w : Wd} {st : Sto} {v : V} {d : D} {p : PyData} (rel : Rel G w st) (h : Rep G w.I w.ph v d) (e : pyD d = some p) : Dp G.K w.H v p := by
  induction h generalizing p with
  | non => cases (show some PyData.none = some p from e); exact .non
  | bl b => cases (show some (PyData.bool b) = some p from e); exact .bl b
  | int i => cases (show some (PyData.int i) = some p from e); exact .int i
  | str s => cases (show some (PyData.str s) = some p from e); exact .str s
  | ty n => cases e
  | glo h => cases e
  | hnd h => cases e
  | tup h1 h2 h3 ih =>
    rename_i ds
    have e : (pyDs ds).map PyData.tuple = some p := e
    cases q : pyDs ds with
    | none => rw [q] at e; cases e
    | some as =>
      rw [q] at e
      cases (show some (PyData.tuple as) = some p from e)
      exact .tup (Evl.ex_t rel.sub h1) (dpAll_of h2 (fun i v d a b p hp => ih i v d a b hp) q)
  | lst h1 h2 h3 ih =>
    rename_i ds
    have e : (pyDs ds).map PyData.list = some p := e
    cases q : pyDs ds with
    | none => rw [q] at e; cases e
    | some as =>
      rw [q] at e
      cases (show some (PyData.list as) = some p from e)
      exact .lst (SqL.of (rel.sub _ _ h1)) (dpAll_of h2 (fun i v d a b p hp => ih i v d a b hp) q)
  | scr h1 h2 h3 ih =>
    rename_i ds
    have e : (pyDs ds).map PyData.list = some p := e
    cases q : pyDs ds with
    | none => rw [q] at e; cases e
    | some as =>
      rw [q] at e
      cases (show some (PyData.list as) = some p from e)
      exact .lst (Evl.ex_l rel.sub h1) (dpAll_of h2 (fun i v d a b p hp => ih i v d a b hp) q)
  | dic h1 h2 h3 h4 ih => cases e
theorem pyH_rep {G : Md} {w : Wd} {st : Sto} {v : V} {d : D} {p : PyData} (rel : Rel G w st) (h : Rep G w.I w.ph v d) (e : pyH st d = some p) : Dp G.K w.H v p := by
  cases d with
  | hnd i =>
    have e : (match cellAt st i with
      | some xs => (pyDs xs).map PyData.list
      | none => none) = some p := e
    cases q : cellAt st i with
    | none => rw [q] at e; cases e
    | some xs =>
      rw [q] at e
      have e : (pyDs xs).map PyData.list = some p := e
      obtain ⟨a, vs, rfl, _, _, e1, e2⟩ := cell_rep rel h q
      cases q2 : pyDs xs with
      | none => rw [q2] at e; cases e
      | some as =>
        rw [q2] at e
        cases (show some (PyData.list as) = some p from e)
        exact .lst (SqL.of e1) (dpAll_of e2.1 (fun i v d a b p hp => py_rep rel (e2.2 i v d a b) hp) q2)
  | _ => exact py_rep rel h e
def eqB (st : Sto) (x y : D) : Option Bool := match pyH st x, pyH st y with
  | some a, some b => if SeqAt.shaped a && SeqAt.shaped b then some (PyData.eqv a b) else none
  | _, _ => none
def eqD (st : Sto) (x y : D) : Option D := (eqB st x y).map .bl
def neD (st : Sto) (x y : D) : Option D := (eqB st x y).map fun b => .bl (!b)
theorem eqB_dp {G : Md} {w : Wd} {st : Sto} {x y : V} {dx dy : D} {b : Bool} (rel : Rel G w st) (rx : Rep G w.I w.ph x dx) (ry : Rep G w.I w.ph y dy) (e : eqB st dx dy = some b) :
    ∃ d e, Dp G.K w.H x d ∧ Dp G.K w.H y e ∧ SeqAt.shaped d = true ∧ SeqAt.shaped e = true ∧ PyData.eqv d e = b := by
  unfold eqB at e
  cases q1 : pyH st dx with
  | none => rw [q1] at e; cases e
  | some a =>
    cases q2 : pyH st dy with
    | none => rw [q1, q2] at e; cases e
    | some c =>
      rw [q1, q2] at e
      have e : (if SeqAt.shaped a && SeqAt.shaped c then some (PyData.eqv a c) else none) = some b := e
      split at e
      · rename_i hs
        rw [Bool.and_eq_true] at hs
        exact ⟨a, c, pyH_rep rel rx q1, pyH_rep rel ry q2, hs.1, hs.2, Option.some.inj e⟩
      · cases e
section
variable {G : Md}
theorem d_eq : OpD G (rEqD G.K) eqD := by
  intro w st x y dx dy d Q rel rx ry e q
  unfold eqD at e
  cases h : eqB st dx dy with
  | none => rw [h] at e; cases e
  | some b =>
    rw [h] at e
    cases (show some (D.bl b) = some d from e)
    obtain ⟨a, c, h1, h2, h3, h4, h5⟩ := eqB_dp rel rx ry h
    exact ⟨a, c, h1, h2, h3, h4, by rw [h5]; exact q w _ (Step.refl w) rel (.bl b)⟩
theorem d_ne : OpD G (rNeD G.K) neD := by
  intro w st x y dx dy d Q rel rx ry e q
  unfold neD at e
  cases h : eqB st dx dy with
  | none => rw [h] at e; cases e
  | some b =>
    rw [h] at e
    cases (show some (D.bl (!b)) = some d from e)
    obtain ⟨a, c, h1, h2, h3, h4, h5⟩ := eqB_dp rel rx ry h
    exact ⟨a, c, h1, h2, h3, h4, by rw [h5]; exact q w _ (Step.refl w) rel (.bl _)⟩
/-! ### in, is None -/
def flatD : D → Option V
  | .non => some .non
  | .bl b => some (.bl b)
  | .int i => some (.int i)
  | .str s => some (.str s)
  | _ => none
def flatDs : List D → Option (List V)
  | [] => some []
  | x :: xs => match flatD x, flatDs xs with
    | some a, some as => some (a :: as)
    | _, _ => none
theorem flat_rep {I : Hp} {ph : List Addr} {v u : V} {d : D} (h : Rep G I ph v d) (e : flatD d = some u) : v = u ∧ flatV u = true := by
  cases h with
  | non => cases e; exact ⟨rfl, rfl⟩
  | bl b => cases e; exact ⟨rfl, rfl⟩
  | int i => cases e; exact ⟨rfl, rfl⟩
  | str s => cases e; exact ⟨rfl, rfl⟩
  | _ => cases e
theorem flats_rep {I : Hp} {ph : List Addr} : ∀ {vs us : List V} {ds : List D}, Reps G I ph vs ds → flatDs ds = some us → vs = us ∧ us.all flatV = true
  | vs, us, [], h, e => by cases e; exact ⟨h.inv_nil', rfl⟩
  | vs, us, d :: ds, h, e => by
    obtain ⟨v, vs', rfl, r1, r2⟩ := h.inv_cons'
    have e : (match flatD d, flatDs ds with
      | some a, some as => some (a :: as)
      | _, _ => none) = some us := e
    cases q1 : flatD d with
    | none => rw [q1] at e; cases e
    | some a =>
      cases q2 : flatDs ds with
      | none => rw [q1, q2] at e; cases e
      | some as =>
        rw [q1, q2] at e
        cases e
        obtain ⟨rfl, h1⟩ := flat_rep r1 q1
        obtain ⟨rfl, h2⟩ := flats_rep r2 q2
        exact ⟨rfl, by rw [List.all_cons, h1, h2]; rfl⟩
def inB (st : Sto) (x y : D) : Option Bool := match flatD x, seqOf st y with
  | some a, some ys => (flatDs ys).map fun bs => inV a bs
  | _, _ => none
def inD (neg : Bool) (st : Sto) (x y : D) : Option D := (inB st x y).map fun b => .bl (if neg = true then !b else b)
theorem d_in {neg : Bool} : OpD G (rIn G.K neg) (inD neg) := by
  intro w st x y dx dy d Q rel rx ry e q
  unfold inD inB at e
  cases q1 : flatD dx with
  | none => rw [q1] at e; cases e
  | some a =>
    cases q2 : seqOf st dy with
    | none => rw [q1, q2] at e; cases e
    | some ys =>
      rw [q1, q2] at e
      cases q3 : flatDs ys with
      | none =>
        have e : ((flatDs ys).map fun bs => inV a bs).map (fun b => D.bl (if neg = true then !b else b)) = some d := e
        rw [q3] at e; cases e
      | some bs =>
        have e : ((flatDs ys).map fun bs => inV a bs).map (fun b => D.bl (if neg = true then !b else b)) = some d := e
        rw [q3] at e
        cases e
        obtain ⟨rfl, h1⟩ := flat_rep rx q1
        obtain ⟨p, vs, rfl, h2, h3⟩ := seq_rep rel ry q2
        obtain ⟨rfl, h4⟩ := flats_rep h3 q3
        exact ⟨p, vs, rfl, h2, h1, h4, q w _ (Step.refl w) rel (.bl _)⟩
def D.isN : D → Bool
  | .non => true
  | _ => false
theorem isN_rep {I : Hp} {ph : List Addr} {v : V} {d : D} (h : Rep G I ph v d) : decide (v = .non) = d.isN := by
  cases h <;> first | rfl | exact decide_eq_false (by intro z; cases z)
def isND (neg : Bool) : Sto → D → D → Option D := fun _ x y => match y with
  | .non => some (.bl (if neg = true then !x.isN else x.isN))
  | _ => none
def rIsNo : R2 := fun x y H Q => y = .non ∧ Q (.bl (decide (x = .non))) H
def rNotNo : R2 := fun x y H Q => y = .non ∧ Q (.bl (!decide (x = .non))) H
theorem d_isN : OpD G rIsNo (isND false) := by
  intro w st x y dx dy d Q rel rx ry e q
  unfold isND at e
  split at e
  · cases e
    refine ⟨non_rep ry, ?_⟩
    rw [isN_rep rx]
    exact q w _ (Step.refl w) rel (.bl _)
  · cases e
theorem d_notN : OpD G rNotNo (isND true) := by
  intro w st x y dx dy d Q rel rx ry e q
  unfold isND at e
  split at e
  · cases e
    refine ⟨non_rep ry, ?_⟩
    rw [isN_rep rx]
    exact q w _ (Step.refl w) rel (.bl _)
  · cases e
/-! ### a < b < c -/
def eChain (g g' : Sto → D → D → Option D) (fa fb fc : EE) : EE := fun sd st => (fa sd st).bind fun x st1 => (fb sd st1).bind fun y st2 => match g st2 x y with
  | some (.bl true) => (fc sd st2).bind fun z st3 => Res.ofO (g' st3 y z) st3
  | some (.bl false) => .ok (.bl false) st2
  | _ => .stk
theorem se_chain {E : L2.St → XK} {ta tb tc : TE} {fa fb fc : EE} {r r' : R2} {g g' : Sto → D → D → Option D} (hg : OpD G r g) (hg' : OpD G r' g') (ha : SE G E ta fa) (hb : SE G E tb fb) (hc : SE G E tc fc) : SE G E (tChain r r' ta tb tc) (eChain g g' fa fb fc) := by
  intro w sv sd st Q rel sl h
  refine ha w sv sd st _ rel sl ((Post.bind h).imp ?_)
  rintro x _ ⟨w1, dx, st1, rfl, s1, r1, rx, h1⟩
  refine hb w1 sv sd st1 _ r1 (sl.step s1) ((Post.bind (h1.step anE s1)).imp ?_)
  rintro y _ ⟨w2, dy, st2, rfl, s2, r2, ry, h2⟩
  have h2 := h2.step anE s2
  cases q : g st2 dx dy with
  | none => rw [q] at h2; exact h2.elim
  | some d =>
    rw [q] at h2
    cases d with
    | bl b =>
      refine hg w2 st2 x y dx dy _ _ r2 (Rep.step s2 rx) ry q ?_
      intro w3 v s3 r3 rv
      refine ⟨b, bl_rep rv, ?_⟩
      have h3 := Post.step anE s3 h2
      cases b with
      | true =>
        refine hc w3 sv sd st2 _ r3 (((sl.step s1).step s2).step s3) ((Post.bind h3).imp ?_)
        rintro z _ ⟨w4, dz, st4, rfl, s4, r4, rz, h4⟩
        obtain ⟨d, e, h5⟩ := ofO_post (h4.step anE s4)
        exact hg' w4 st4 y z dy dz d Q r4 ((Rep.step s3 ry).step s4) rz e h5
      | false => exact h3 w3 _ (Step.refl _) r3 (.bl false)
    | _ => exact h2.elim
/-! ### len, items -/
def lenD : Sto → List D → Option D := fun st ds => match ds with
  | [.str s] => if s.length ≤ lineN then some (.int s.length) else none
  | [d] => (seqOf st d).map fun xs => .int xs.length
  | _ => none
theorem one_rep {I : Hp} {ph : List Addr} {vs : List V} {d : D} (h : Reps G I ph vs [d]) : ∃ v, vs = [v] ∧ Rep G I ph v d := by
  obtain ⟨v, us, rfl, a, b⟩ := h.inv_cons'
  rw [b.inv_nil']
  exact ⟨v, rfl, a⟩
theorem two_rep {I : Hp} {ph : List Addr} {vs : List V} {d e : D} (h : Reps G I ph vs [d, e]) : ∃ v u, vs = [v, u] ∧ Rep G I ph v d ∧ Rep G I ph u e := by
  obtain ⟨v, us, rfl, a, b⟩ := h.inv_cons'
  obtain ⟨u, rfl, c⟩ := one_rep b
  exact ⟨v, u, rfl, a, c⟩
def rLen (K : PySem.W.Frag) : List V → Hp → VK → Prop := fun xs H Q => ∃ x n, xs = [x] ∧ LenV K x H n ∧ Q (.int (n : Nat)) H
theorem c_len : CaD G (rLen G.K) lenD := by
  intro w st vs ds d Q rel rs e q
  have seq : ∀ d0, ds = [d0] → (seqOf st d0).map (fun xs => D.int xs.length) = some d → rLen G.K vs w.H Q := by
    intro d0 hd e2
    subst hd
    obtain ⟨v, rfl, rv⟩ := one_rep rs
    cases h : seqOf st d0 with
    | none => rw [h] at e2; cases e2
    | some xs =>
      rw [h] at e2
      cases e2
      obtain ⟨a, us, rfl, h1, h2⟩ := seq_rep rel rv h
      refine ⟨.ref a, us.length, rfl, ?_, ?_⟩
      · rcases h1 with h1 | h1
        · exact .inl ⟨us, h1, rfl⟩
        · exact .inr ⟨us, h1, rfl⟩
      · rw [h2.1]
        exact q w _ (Step.refl w) rel (.int _)
  unfold lenD at e
  split at e
  · rename_i s
    obtain ⟨v, rfl, rv⟩ := one_rep rs
    cases str_rep rv
    split at e
    · rename_i hl
      cases e
      exact ⟨_, s.length, rfl, ⟨line_ok hl, rfl⟩, q w _ (Step.refl w) rel (.int _)⟩
    · cases e
  · exact seq _ rfl e
  · cases e
theorem Reps.atI {I : Hp} {ph : List Addr} {vs : List V} {ds : List D} {i : Int} {d : D} (h : Reps G I ph vs ds) (e : L2.atI ds i = some d) : ∃ v, L2.atI vs i = some v ∧ Rep G I ph v d := by
  unfold L2.atI at e ⊢
  rw [h.1]
  cases q : ixN ds.length i with
  | none => rw [q] at e; cases e
  | some j =>
    rw [q] at e
    exact h.get (show ds[j]? = some d from e)
def ixD : Sto → D → D → Option D := fun st x y => match y with
  | .int i => (seqOf st x).bind fun xs => L2.atI xs i
  | _ => none
def rIxD (K : PySem.W.Frag) : R2 := fun x y H Q => rIxL K x y H Q ∨ rIxT K x y H Q
theorem ix_any {X : Cx} : IxR X (rIxD X.K) := by
  intro value slice pins s σ H x y v u Q I rx ry h hs
  rcases h with h | h
  · exact ix_list value slice pins s σ H x y v u Q I rx ry h hs
  · exact ix_tup value slice pins s σ H x y v u Q I rx ry h hs
theorem d_ix : OpD G (rIxD G.K) ixD := by
  intro w st x y dx dy d Q rel rx ry e q
  unfold ixD at e
  split at e
  · rename_i i
    cases h : seqOf st dx with
    | none => rw [h] at e; cases e
    | some xs =>
      rw [h] at e
      have e : L2.atI xs i = some d := e
      obtain ⟨a, us, rfl, h1, h2⟩ := seq_rep rel rx h
      obtain ⟨v, e2, rv⟩ := h2.atI e
      rw [int_rep ry]
      rcases h1 with h1 | h1
      · exact .inl ⟨a, us, i, v, rfl, rfl, h1, e2, q w v (Step.refl w) rel rv⟩
      · exact .inr ⟨a, us, i, v, rfl, rfl, h1, e2, q w v (Step.refl w) rel rv⟩
  · cases e
/-! ### slices -/
abbrev EO := Sl → Sto → Res (Option Int)
def RO : RR (Option Int) (Option Int) := fun _ _ x y => x = y
theorem anO : An RO := ⟨fun _ _ _ _ _ _ h => h⟩
def SO (G : Md) (E : L2.St → XK) (to : TO) (f : EO) : Prop := ∀ w sv sd st Q, Rel G w st → Slo G w sv sd → Post G RO w (f sd st) Q (E sv) → to sv w.H Q
def oNo : EO := fun _ st => .ok none st
def oAt (f : EE) : EO := fun sd st => (f sd st).bind fun x st1 => match x with
  | .int i => .ok (some i) st1
  | _ => .stk
theorem so_no {E : L2.St → XK} : SO G E tNoPart oNo := fun w sv sd st Q rel sl h => h w none (Step.refl w) rel rfl
theorem so_at {E : L2.St → XK} {te : TE} {f : EE} (he : SE G E te f) : SO G E (tPart te) (oAt f) := by
  intro w sv sd st Q rel sl h
  refine he w sv sd st _ rel sl ((Post.bind h).imp ?_)
  rintro x _ ⟨w1, dx, st1, rfl, s1, r1, rx, h1⟩
  have h1 := h1.step anO s1
  cases dx with
  | int i => exact ⟨i, int_rep rx, h1 w1 _ (Step.refl _) r1 rfl⟩
  | _ => exact h1.elim
def cutG {a : Type} (xs : List a) (lo hi : Option Int) : List a := (xs.drop (HT.sIx xs.length 0 lo)).take (HT.sIx xs.length xs.length hi - HT.sIx xs.length 0 lo)
theorem Reps.cut {I : Hp} {ph : List Addr} {vs : List V} {ds : List D} (h : Reps G I ph vs ds) (lo hi : Option Int) : Reps G I ph (cutV vs lo hi) (cutG ds lo hi) := by
  unfold cutV cutG
  rw [h.1]
  exact (h.drop _).take _
/-- t[lo:hi] -/
def eCutT (f : EE) (lo hi : EO) : EE := fun sd st => (f sd st).bind fun x st1 => (lo sd st1).bind fun l st2 => (hi sd st2).bind fun h st3 => match x with
  | .tup xs => .ok (.tup (cutG xs l h)) st3
  | _ => .stk
/-- xs[lo:hi], a new list -/
def fCutL (f : EE) (lo hi : EO) : EA := fun sd st => (f sd st).bind fun x st1 => (lo sd st1).bind fun l st2 => (hi sd st2).bind fun h st3 => match lstOf st3 x with
  | some xs => .ok (cutG xs l h) st3
  | none => .stk
theorem se_cutT {E : L2.St → XK} {te : TE} {f : EE} {tl th : TO} {lo hi : EO} (he : SE G E te f) (hl : SO G E tl lo) (hh : SO G E th hi) : SE G E (tSl (rSlA G.K) te tl th) (eCutT f lo hi) := by
  intro w sv sd st Q rel sl h
  refine he w sv sd st _ rel sl ((Post.bind h).imp ?_)
  rintro x _ ⟨w1, dx, st1, rfl, s1, r1, rx, h1⟩
  refine hl w1 sv sd st1 _ r1 (sl.step s1) ((Post.bind (h1.step anE s1)).imp ?_)
  rintro l _ ⟨w2, _, st2, rfl, s2, r2, rfl, h2⟩
  refine hh w2 sv sd st2 _ r2 ((sl.step s1).step s2) ((Post.bind (h2.step anE s2)).imp ?_)
  rintro u _ ⟨w3, _, st3, rfl, s3, r3, rfl, h3⟩
  have h3 := h3.step anE s3
  have rx3 := Rep.step s3 (Rep.step s2 rx)
  cases dx with
  | tup xs =>
    obtain ⟨a, vs, rfl, k1, k2⟩ := rx3.tup_inv
    refine ⟨a, vs, rfl, Evl.ex_t r3.sub k1, fun z => ?_, fun _ p hp => ?_⟩
    · have e : cutG xs l u = xs := by
        unfold cutG
        rw [← k2.1, z.1, z.2, List.drop_zero, Nat.sub_zero, k2.1, List.take_length]
      have h3 : Post G (RE G) w3 (Res.ok (D.tup (cutG xs l u)) st3) Q (E sv) := h3
      rw [e] at h3
      exact h3 w3 _ (Step.refl _) r3 rx3
    · exact h3 (w3.addI p (.tup (cutV vs l u))) _ (step_addI r3 hp) (r3.addI hp) (Rep.tup' (SqT.of upd_same) ((k2.cut l u).step (step_addI r3 hp)))
  | _ => exact h3.elim
theorem sf_cutL {E : L2.St → XK} {te : TE} {f : EE} {tl th : TO} {lo hi : EO} (he : SE G E te f) (hl : SO G E tl lo) (hh : SO G E th hi) : SF G E (tSl (rSlL G.K) te tl th) (fCutL f lo hi) := by
  intro w sv sd st Q rel sl h
  refine he w sv sd st _ rel sl ((Post.bind h).imp ?_)
  rintro x _ ⟨w1, dx, st1, rfl, s1, r1, rx, h1⟩
  refine hl w1 sv sd st1 _ r1 (sl.step s1) ((Post.bind (h1.step anF s1)).imp ?_)
  rintro l _ ⟨w2, _, st2, rfl, s2, r2, rfl, h2⟩
  refine hh w2 sv sd st2 _ r2 ((sl.step s1).step s2) ((Post.bind (h2.step anF s2)).imp ?_)
  rintro u _ ⟨w3, _, st3, rfl, s3, r3, rfl, h3⟩
  have h3 := h3.step anF s3
  have rx3 := Rep.step s3 (Rep.step s2 rx)
  cases e : lstOf st3 dx with
  | some xs =>
    rw [e] at h3
    obtain ⟨a, vs, rfl, k1, k2⟩ := lst_rep r3 rx3 e
    refine ⟨a, vs, rfl, k1, fun p hp => ?_⟩
    have k := fresh_lst r3 hp (k2.cut l u)
    exact h3 ⟨w3.I, w3.ph, upd w3.H p (.lst (cutV vs l u))⟩ _ k.1 k.2 ⟨p, _, rfl, hp, r3.notIn hp, r3.noI hp, upd_same, k2.cut l u⟩
  | none =>
    rw [e] at h3
    exact h3.elim
/-- t[::-1] -/
def eRevT (f : EE) : EE := fun sd st => (f sd st).bind fun x st1 => match x with
  | .tup xs => .ok (.tup xs.reverse) st1
  | _ => .stk
theorem se_revT {E : L2.St → XK} {te : TE} {f : EE} (he : SE G E te f) : SE G E (tRevT G.K te) (eRevT f) := by
  intro w sv sd st Q rel sl h
  refine he w sv sd st _ rel sl ((Post.bind h).imp ?_)
  rintro x _ ⟨w1, dx, st1, rfl, s1, r1, rx, h1⟩
  have h1 := h1.step anE s1
  cases dx with
  | tup xs =>
    obtain ⟨a, vs, rfl, k1, k2⟩ := rx.tup_inv
    refine ⟨a, vs, rfl, Evl.ex_t r1.sub k1, fun p hp => ?_⟩
    exact h1 (w1.addI p (.tup vs.reverse)) _ (step_addI r1 hp) (r1.addI hp) (Rep.tup' (SqT.of upd_same) (k2.reverse.step (step_addI r1 hp)))
  | _ => exact h1.elim
end
end DS
namespace DS
open PySem PySem.Spec PyProof.Rows L2
section
variable {G : Md}
/-! ### built-in calls -/
def absD : Sto → List D → Option D := fun _ ds => match ds with
  | [.int i] => some (.int (if i < 0 then -i else i))
  | _ => none
def rAbs : List V → Hp → VK → Prop := fun xs H Q => ∃ i, xs = [.int i] ∧ Q (.int (if i < 0 then -i else i)) H
theorem c_abs : CaD G rAbs absD := by
  intro w st vs ds d Q rel rs e q
  unfold absD at e
  split at e
  · rename_i i
    cases e
    obtain ⟨v, rfl, rv⟩ := one_rep rs
    rw [int_rep rv]
    exact ⟨i, rfl, q w _ (Step.refl w) rel (.int _)⟩
  · cases e
def intOf : Sto → List D → Option D := fun _ ds => match ds with
  | [.int i] => some (.int i)
  | [.bl b] => some (.int (if b = true then 1 else 0))
  | _ => none
def rInt1 : List V → Hp → VK → Prop := fun xs H Q => (∃ i, xs = [.int i] ∧ Q (.int i) H) ∨ ∃ k : Bool, xs = [.bl k] ∧ Q (.int (if k = true then 1 else 0)) H
theorem c_int : CaD G rInt1 intOf := by
  intro w st vs ds d Q rel rs e q
  unfold intOf at e
  split at e
  · rename_i i
    cases e
    obtain ⟨v, rfl, rv⟩ := one_rep rs
    rw [int_rep rv]
    exact .inl ⟨i, rfl, q w _ (Step.refl w) rel (.int _)⟩
  · rename_i b
    cases e
    obtain ⟨v, rfl, rv⟩ := one_rep rs
    rw [bl_rep rv]
    exact .inr ⟨b, rfl, q w _ (Step.refl w) rel (.int _)⟩
  · cases e
def max2D : Sto → List D → Option D := fun _ ds => match ds with
  | [.int i, .int j] => some (.int (if j > i then j else i))
  | _ => none
def min2D : Sto → List D → Option D := fun _ ds => match ds with
  | [.int i, .int j] => some (.int (if j < i then j else i))
  | _ => none
def rMax2 : List V → Hp → VK → Prop := fun xs H Q => ∃ i j, xs = [.int i, .int j] ∧ Q (.int (if j > i then j else i)) H
def rMin2 : List V → Hp → VK → Prop := fun xs H Q => ∃ i j, xs = [.int i, .int j] ∧ Q (.int (if j < i then j else i)) H
theorem c_max2 : CaD G rMax2 max2D := by
  intro w st vs ds d Q rel rs e q
  unfold max2D at e
  split at e
  · rename_i i j
    cases e
    obtain ⟨v, u, rfl, rv, ru⟩ := two_rep rs
    rw [int_rep rv, int_rep ru]
    exact ⟨i, j, rfl, q w _ (Step.refl w) rel (.int _)⟩
  · cases e
theorem c_min2 : CaD G rMin2 min2D := by
  intro w st vs ds d Q rel rs e q
  unfold min2D at e
  split at e
  · rename_i i j
    cases e
    obtain ⟨v, u, rfl, rv, ru⟩ := two_rep rs
    rw [int_rep rv, int_rep ru]
    exact ⟨i, j, rfl, q w _ (Step.refl w) rel (.int _)⟩
  · cases e
def intsOf : List D → Option (List Int)
  | [] => some []
  | .int i :: r => (intsOf r).map (i :: ·)
  | _ => none
def blsOf : List D → Option (List Bool)
  | [] => some []
  | .bl i :: r => (blsOf r).map (i :: ·)
  | _ => none
theorem ints_rep {I : Hp} {ph : List Addr} : ∀ {vs : List V} {ds : List D} {ns : List Int}, Reps G I ph vs ds → intsOf ds = some ns → vs = ns.map V.int
  | vs, [], ns, h, e => by cases e; exact h.inv_nil'
  | vs, d :: ds, ns, h, e => by
    obtain ⟨v, us, rfl, r1, r2⟩ := h.inv_cons'
    cases d with
    | int i =>
      have e : (intsOf ds).map (i :: ·) = some ns := e
      cases q : intsOf ds with
      | none => rw [q] at e; cases e
      | some ms =>
        rw [q] at e
        cases e
        rw [int_rep (w := ⟨I, ph, I⟩) r1, ints_rep r2 q]
        rfl
    | _ => cases e
theorem bls_rep {I : Hp} {ph : List Addr} : ∀ {vs : List V} {ds : List D} {ns : List Bool}, Reps G I ph vs ds → blsOf ds = some ns → vs = ns.map V.bl
  | vs, [], ns, h, e => by cases e; exact h.inv_nil'
  | vs, d :: ds, ns, h, e => by
    obtain ⟨v, us, rfl, r1, r2⟩ := h.inv_cons'
    cases d with
    | bl i =>
      have e : (blsOf ds).map (i :: ·) = some ns := e
      cases q : blsOf ds with
      | none => rw [q] at e; cases e
      | some ms =>
        rw [q] at e
        cases e
        rw [bl_rep (w := ⟨I, ph, I⟩) r1, bls_rep r2 q]
        rfl
    | _ => cases e
/-- one list, read as numbers, as bools -/
def onI (g : List Int → Option D) : Sto → List D → Option D := fun st ds => match ds with
  | [d] => (lstOf st d).bind fun xs => (intsOf xs).bind g
  | _ => none
def onB (g : List Bool → Option D) : Sto → List D → Option D := fun st ds => match ds with
  | [d] => (lstOf st d).bind fun xs => (blsOf xs).bind g
  | _ => none
theorem onI_of {g : List Int → Option D} {r : List V → Hp → VK → Prop} (h : ∀ a ns d (H : Hp) (Q : VK), SqL G.K H a (ns.map V.int) → g ns = some d → (∀ v, (∀ I ph, Rep G I ph v d) → Q v H) → r [.ref a] H Q) : CaD G r (onI g) := by
  intro w st vs ds d Q rel rs e q
  unfold onI at e
  split at e
  · rename_i d0
    cases h1 : lstOf st d0 with
    | none => rw [h1] at e; cases e
    | some xs =>
      rw [h1] at e
      have e : (intsOf xs).bind g = some d := e
      cases h2 : intsOf xs with
      | none => rw [h2] at e; cases e
      | some ns =>
        rw [h2] at e
        obtain ⟨v, rfl, rv⟩ := one_rep rs
        obtain ⟨a, us, rfl, k1, k2⟩ := lst_rep rel rv h1
        rw [ints_rep k2 h2] at k1
        exact h a ns d w.H Q k1 e fun v hv => q w v (Step.refl w) rel (hv _ _)
  · cases e
theorem onB_of {g : List Bool → Option D} {r : List V → Hp → VK → Prop} (h : ∀ a ns d (H : Hp) (Q : VK), SqL G.K H a (ns.map V.bl) → g ns = some d → (∀ v, (∀ I ph, Rep G I ph v d) → Q v H) → r [.ref a] H Q) : CaD G r (onB g) := by
  intro w st vs ds d Q rel rs e q
  unfold onB at e
  split at e
  · rename_i d0
    cases h1 : lstOf st d0 with
    | none => rw [h1] at e; cases e
    | some xs =>
      rw [h1] at e
      have e : (blsOf xs).bind g = some d := e
      cases h2 : blsOf xs with
      | none => rw [h2] at e; cases e
      | some ns =>
        rw [h2] at e
        obtain ⟨v, rfl, rv⟩ := one_rep rs
        obtain ⟨a, us, rfl, k1, k2⟩ := lst_rep rel rv h1
        rw [bls_rep k2 h2] at k1
        exact h a ns d w.H Q k1 e fun v hv => q w v (Step.refl w) rel (hv _ _)
  · cases e
def maxI : List Int → Option Int
  | [] => none
  | x :: xs => some (xs.foldl (fun a b => if a < b then b else a) x)
def minI : List Int → Option Int
  | [] => none
  | x :: xs => some (xs.foldl (fun a b => if b < a then b else a) x)
theorem maxI_ge : ∀ (xs : List Int) (x : Int), x ≤ xs.foldl (fun a b => if a < b then b else a) x ∧ ∀ y ∈ xs, y ≤ xs.foldl (fun a b => if a < b then b else a) x
  | [], x => ⟨Int.le_refl _, by simp⟩
  | z :: xs, x => by
    rw [List.foldl_cons]
    obtain ⟨h1, h2⟩ := maxI_ge xs (if x < z then z else x)
    have h3 : x ≤ (if x < z then z else x) ∧ z ≤ (if x < z then z else x) := by split <;> omega
    refine ⟨by omega, fun y hy => ?_⟩
    rcases List.mem_cons.mp hy with rfl | hy
    · omega
    · exact h2 y hy
theorem maxI_mem : ∀ (xs : List Int) (x : Int), xs.foldl (fun a b => if a < b then b else a) x ∈ x :: xs
  | [], x => by simp
  | z :: xs, x => by
    rw [List.foldl_cons]
    have h := maxI_mem xs (if x < z then z else x)
    rcases List.mem_cons.mp h with h | h
    · rw [h]
      split <;> simp
    · exact List.mem_cons_of_mem _ (List.mem_cons_of_mem _ h)
theorem minI_le : ∀ (xs : List Int) (x : Int), xs.foldl (fun a b => if b < a then b else a) x ≤ x ∧ ∀ y ∈ xs, xs.foldl (fun a b => if b < a then b else a) x ≤ y
  | [], x => ⟨Int.le_refl _, by simp⟩
  | z :: xs, x => by
    rw [List.foldl_cons]
    obtain ⟨h1, h2⟩ := minI_le xs (if z < x then z else x)
    have h3 : (if z < x then z else x) ≤ x ∧ (if z < x then z else x) ≤ z := by split <;> omega
    refine ⟨by omega, fun y hy => ?_⟩
    rcases List.mem_cons.mp hy with rfl | hy
    · omega
    · exact h2 y hy
theorem minI_mem : ∀ (xs : List Int) (x : Int), xs.foldl (fun a b => if b < a then b else a) x ∈ x :: xs
  | [], x => by simp
  | z :: xs, x => by
    rw [List.foldl_cons]
    have h := minI_mem xs (if z < x then z else x)
    rcases List.mem_cons.mp h with h | h
    · rw [h]
      split <;> simp
    · exact List.mem_cons_of_mem _ (List.mem_cons_of_mem _ h)
theorem c_maxL : CaD G (rMax G.K) (onI fun ns => (maxI ns).map .int) := onI_of fun a ns d H Q h e q => by
  cases ns with
  | nil => cases e
  | cons x xs =>
    cases e
    refine ⟨a, x :: xs, rfl, h, Nat.succ_pos _, fun m hm hle => ?_⟩
    have h1 := hle _ (maxI_mem xs x)
    have h2 : m ≤ xs.foldl (fun a b => if a < b then b else a) x := by
      rcases List.mem_cons.mp hm with rfl | hm
      · exact (maxI_ge xs m).1
      · exact (maxI_ge xs x).2 m hm
    have e : m = xs.foldl (fun a b => if a < b then b else a) x := by omega
    rw [e]
    exact q _ fun I ph => .int _
theorem c_minL : CaD G (rMin G.K) (onI fun ns => (minI ns).map .int) := onI_of fun a ns d H Q h e q => by
  cases ns with
  | nil => cases e
  | cons x xs =>
    cases e
    refine ⟨a, x :: xs, rfl, h, Nat.succ_pos _, fun m hm hle => ?_⟩
    have h1 := hle _ (minI_mem xs x)
    have h2 : xs.foldl (fun a b => if b < a then b else a) x ≤ m := by
      rcases List.mem_cons.mp hm with rfl | hm
      · exact (minI_le xs m).1
      · exact (minI_le xs x).2 m hm
    have e : m = xs.foldl (fun a b => if b < a then b else a) x := by omega
    rw [e]
    exact q _ fun I ph => .int _
theorem c_sum : CaD G (rSum G.K) (onI fun ns => some (.int ns.sum)) := onI_of fun a ns d H Q h e q => ⟨a, ns, rfl, h, q _ fun I ph => by cases e; exact .int _⟩
theorem c_all : CaD G (rAll G.K) (onB fun bs => some (.bl (bs.all id))) := onB_of fun a ns d H Q h e q => ⟨a, ns, rfl, h, q _ fun I ph => by cases e; exact .bl _⟩
theorem c_any : CaD G (rAny G.K) (onB fun bs => some (.bl (bs.any id))) := onB_of fun a ns d H Q h e q => ⟨a, ns, rfl, h, q _ fun I ph => by cases e; exact .bl _⟩
/-- repr of what is flat -/
def reprD : Sto → List D → Option D := fun _ ds => match ds with
  | [.bl b] => some (.str (if b then "True" else "False"))
  | [.int i] => if i.natAbs.log2 < 1920 then some (.str (toString i)) else none
  | [.non] => some (.str "None")
  | _ => none
def rRepr : List V → Hp → VK → Prop := fun xs H Q => (∃ b, xs = [.bl b] ∧ Q (.str (if b then "True" else "False")) H) ∨ (∃ i, xs = [.int i] ∧ i.natAbs.log2 < 1920 ∧ Q (.str (toString i)) H) ∨ (xs = [.non] ∧ Q (.str "None") H)
theorem c_repr : CaD G rRepr reprD := by
  intro w st vs ds d Q rel rs e q
  unfold reprD at e
  split at e
  · rename_i b
    cases e
    obtain ⟨v, rfl, rv⟩ := one_rep rs
    rw [bl_rep rv]
    exact .inl ⟨b, rfl, q w _ (Step.refl w) rel (.str _)⟩
  · rename_i i
    split at e
    · rename_i hl
      cases e
      obtain ⟨v, rfl, rv⟩ := one_rep rs
      rw [int_rep rv]
      exact .inr (.inl ⟨i, rfl, hl, q w _ (Step.refl w) rel (.str _)⟩)
    · cases e
  · cases e
    obtain ⟨v, rfl, rv⟩ := one_rep rs
    rw [non_rep rv]
    exact .inr (.inr ⟨rfl, q w _ (Step.refl w) rel (.str _)⟩)
  · cases e
/-- tuple(..) -/
def tupleD : Sto → List D → Option D := fun st ds => match ds with
  | [d] => (seqOf st d).map .tup
  | _ => none
def rTupOf (K : PySem.W.Frag) : List V → Hp → VK → Prop := fun xs H Q => ∃ p ys, xs = [.ref p] ∧ ((SqL K H p ys ∧ ∀ l, H l = none → Q (.ref l) (upd H l (.tup ys))) ∨ (SqT K H p ys ∧ Q (.ref p) H))
theorem c_tuple : CaD G (rTupOf G.K) tupleD := by
  intro w st vs ds d Q rel rs e q
  unfold tupleD at e
  split at e
  · rename_i d0
    obtain ⟨v, rfl, rv⟩ := one_rep rs
    cases h1 : lstOf st d0 with
    | some xs =>
      have h2 : seqOf st d0 = some xs := by
        cases d0 <;> first | exact h1 | cases h1
      rw [h2] at e
      cases e
      obtain ⟨a, us, rfl, k1, k2⟩ := lst_rep rel rv h1
      exact ⟨a, us, rfl, .inl ⟨k1, fun p hp => q (w.addI p (.tup us)) _ (step_addI rel hp) (rel.addI hp) (Rep.tup' (SqT.of upd_same) (k2.step (step_addI rel hp)))⟩⟩
    | none =>
      cases d0 with
      | tup xs =>
        cases e
        obtain ⟨a, us, rfl, k1, k2⟩ := rv.tup_inv
        exact ⟨a, us, rfl, .inr ⟨Evl.ex_t rel.sub k1, q w _ (Step.refl w) rel rv⟩⟩
      | hnd i =>
        have e : (lstOf st (.hnd i)).map D.tup = some d := e
        rw [h1] at e
        cases e
      | lst ys => cases h1
      | scr ys => cases h1
      | _ => cases e
  · cases e
/-- list(..), a new one -/
def listD : Sto → List D → Option (List D) := fun st ds => match ds with
  | [d] => seqOf st d
  | _ => none
def rLstOf (K : PySem.W.Frag) : List V → Hp → VK → Prop := fun xs H Q => ∃ p ys, xs = [.ref p] ∧ (SqL K H p ys ∨ SqT K H p ys) ∧ ∀ l, H l = none → Q (.ref l) (upd H l (.lst ys))
theorem c_list : CaF G (rLstOf G.K) listD := by
  intro w st vs ds d Q rel rs e q
  unfold listD at e
  split at e
  · rename_i d0
    obtain ⟨v, rfl, rv⟩ := one_rep rs
    obtain ⟨a, us, rfl, k1, k2⟩ := seq_rep rel rv e
    refine ⟨a, us, rfl, k1, fun p hp => ?_⟩
    have k := fresh_lst rel hp k2
    exact q ⟨w.I, w.ph, upd w.H p (.lst us)⟩ _ k.1 k.2 ⟨p, us, rfl, hp, rel.notIn hp, rel.noI hp, upd_same, k2⟩
  · cases e
/-- isinstance(x, T), T a built-in class -/
def D.cls : D → Option String
  | .non => some "NoneType"
  | .bl _ => some "bool"
  | .int _ => some "int"
  | .str _ => some "str"
  | .tup _ => some "tuple"
  | .lst _ => some "list"
  | .scr _ => some "list"
  | .dic _ => some "dict"
  | _ => none
def D.clsH (st : Sto) : D → Option String
  | .hnd i => (cellAt st i).map fun _ => "list"
  | d => d.cls
def isiD : Sto → List D → Option D := fun st ds => match ds with
  | [d, .ty n] => (d.clsH st).bind fun c => (kitB c n).map .bl
  | _ => none
theorem tyx_l {H : Hp} {a : Addr} {xs : List V} (h : SqL G.K H a xs) : TyX G.K H (.ref a) (.type "list") := by
  rcases h with (h | ⟨o, h⟩) | ⟨o, _, _, h1, h2, _⟩
  · exact .base (.lst h)
  · exact .base (.frz h)
  · exact .kList h1 h2
theorem tyx_t {H : Hp} {a : Addr} {xs : List V} (h : SqT G.K H a xs) : TyX G.K H (.ref a) (.type "tuple") := by
  rcases h with (h | ⟨o, h⟩) | ⟨o, _, _, h1, h2, _⟩
  · exact .base (.tup h)
  · exact .fTuple h
  · exact .kTuple h1 h2
theorem cls_rep {w : Wd} {st : Sto} {v : V} {d : D} {c : String} (rel : Rel G w st) (h : Rep G w.I w.ph v d) (e : d.clsH st = some c) : TyX G.K w.H v (.type c) := by
  cases d with
  | non => cases e; rw [non_rep h]; exact .base .non
  | bl b => cases e; rw [bl_rep h]; exact .base (.bl b)
  | int i => cases e; rw [int_rep h]; exact .base (.int i)
  | str s => cases e; rw [str_rep h]; exact .base (.str s)
  | ty n => cases e
  | glo x => cases e
  | tup xs =>
    cases e
    obtain ⟨a, vs, rfl, h1, h2⟩ := tup_rep (xs := xs) rel h rfl
    exact tyx_t h1
  | lst xs =>
    cases e
    obtain ⟨a, vs, rfl, h1, h2⟩ := lst_rep (xs := xs) rel h rfl
    exact tyx_l h1
  | scr xs =>
    cases e
    obtain ⟨a, vs, rfl, h1, h2⟩ := lst_rep (xs := xs) rel h rfl
    exact tyx_l h1
  | hnd i =>
    have e : (cellAt st i).map (fun _ => "list") = some c := e
    cases q : cellAt st i with
    | none => rw [q] at e; cases e
    | some xs =>
      rw [q] at e
      cases e
      obtain ⟨a, vs, rfl, h1, h2⟩ := lst_rep (xs := xs) rel h q
      exact tyx_l h1
  | dic kvs =>
    cases e
    cases h with
    | dic h1 => exact .base (.dK (rel.sub _ _ h1))
  | obj c xs => cases e
theorem c_isi : CaD G (rIsi G.K) isiD := by
  intro w st vs ds d Q rel rs e q
  unfold isiD at e
  split at e
  · rename_i d0 n
    obtain ⟨v, u, rfl, rv, ru⟩ := two_rep rs
    cases h1 : d0.clsH st with
    | none => rw [h1] at e; cases e
    | some c =>
      rw [h1] at e
      have e : (kitB c n).map D.bl = some d := e
      cases h2 : kitB c n with
      | none => rw [h2] at e; cases e
      | some b =>
        rw [h2] at e
        cases e
        cases ru
        exact ⟨v, .ty n, _, _, b, rfl, .ty n, cls_rep rel rv h1, kit_ty h2, q w _ (Step.refl w) rel (.bl b)⟩
  · cases e
/-- {} that stays as it is -/
def eDict0 : EE := fun _ st => .ok (.dic []) st
theorem se_dict0 {E : L2.St → XK} : SE G E tDNewK eDict0 := by
  intro w sv sd st Q rel sl h p hp
  exact h (w.addI p (.dK [])) _ (step_addI rel hp) (rel.addI hp) (.dic upd_same rfl (fun i p q a => by simp at a) (fun i p q a => by simp at a))
end
end DS
namespace DS
open PySem PySem.Spec PyProof.Rows L2
section
variable {G : Md}
/-! ### what is walked -/
/-- a sequence that stays -/
def seqN : D → Option (List D)
  | .tup xs => some xs
  | .lst xs => some xs
  | .scr xs => some xs
  | _ => none
def iSeq (f : EE) : EI := fun sd st => (f sd st).bind fun d st1 => match d with
  | .hnd h => match cellAt st1 h with
    | some xs => .ok (fun st i => (cellAt st h).map fun ys => ys[i]?, xs.length) st1
    | none => .stk
  | d => match seqN d with
    | some xs => .ok (fun _ i => some xs[i]?, xs.length) st1
    | none => .stk
def tSeqI (K : PySem.W.Frag) (te : TE) : TI := fun σ H R => iList K te σ H R ∨ iTup K te σ H R
theorem pi_seqI {X : Cx} {tg e : Expr} {te : TE} (h : PE X e te) : PI X tg e (tSeqI X.K te) := or_pi (pi_list h) (pi_tup h)
/-- each turn's item is at hand, and nothing is made -/
theorem it_fix {w1 : Wd} {J : It} {it : ItD} (h : ∀ w st, Step w1 w → Rel G w st → ∀ i, (∀ d, it st i = some (some d) → J.go i w.H ∧ ∀ x H', J.yld i w.H x H' → H' = w.H ∧ Rep G w.I w.ph x d) ∧ (it st i = some none → J.stop i w.H)) : ItOk G w1 J it := by
  intro w st s rel i
  obtain ⟨a, b⟩ := h w st s rel i
  refine ⟨fun d e => ⟨(a d e).1, fun x H' y => ?_⟩, b⟩
  obtain ⟨rfl, r⟩ := (a d e).2 x H' y
  exact ⟨w, rfl, Step.refl w, rel, r⟩
theorem it_l {w1 : Wd} {a : Addr} {vs : List V} {xs : List D} (h : SqL G.K w1.I a vs) (rs : Reps G w1.I w1.ph vs xs) : ItOk G w1 (Itl G.K a) fun _ i => some xs[i]? := by
  refine it_fix fun w st s rel i => ⟨fun d e => ?_, fun e => ?_⟩
  · have e : xs[i]? = some d := Option.some.inj e
    have k := Evl.ex_l rel.sub (Evl.ex_l s.im h)
    obtain ⟨v, hv, rv⟩ := (rs.step s).get e
    exact ⟨⟨vs, v, k, hv⟩, fun x H' y => ⟨y.1, (rs.step s).2 i x d (y.2 vs k) e⟩⟩
  · have e : xs[i]? = none := Option.some.inj e
    exact ⟨vs, Evl.ex_l rel.sub (Evl.ex_l s.im h), List.getElem?_eq_none_iff.mp (rs.none e)⟩
theorem it_t {w1 : Wd} {a : Addr} {vs : List V} {xs : List D} (h : SqT G.K w1.I a vs) (rs : Reps G w1.I w1.ph vs xs) : ItOk G w1 (Itt G.K a) fun _ i => some xs[i]? := by
  refine it_fix fun w st s rel i => ⟨fun d e => ?_, fun e => ?_⟩
  · have e : xs[i]? = some d := Option.some.inj e
    have k := Evl.ex_t rel.sub (Evl.ex_t s.im h)
    obtain ⟨v, hv, rv⟩ := (rs.step s).get e
    exact ⟨⟨vs, v, k, hv⟩, fun x H' y => ⟨y.1, (rs.step s).2 i x d (y.2 vs k) e⟩⟩
  · have e : xs[i]? = none := Option.some.inj e
    exact ⟨vs, Evl.ex_t rel.sub (Evl.ex_t s.im h), List.getElem?_eq_none_iff.mp (rs.none e)⟩
theorem seqN_inv {I : Hp} {ph : List Addr} {v : V} {d : D} {xs : List D} (h : Rep G I ph v d) (e : seqN d = some xs) : ∃ a vs, v = .ref a ∧ (SqL G.K I a vs ∨ SqT G.K I a vs) ∧ Reps G I ph vs xs := by
  cases h with
  | tup h1 h2 h3 => cases e; exact ⟨_, _, rfl, .inr h1, h2, h3⟩
  | lst h1 h2 h3 => cases e; exact ⟨_, _, rfl, .inl (SqL.of h1), h2, h3⟩
  | scr h1 h2 h3 => cases e; exact ⟨_, _, rfl, .inl h1, h2, h3⟩
  | _ => cases e
theorem si_seq {E : L2.St → XK} {te : TE} {f : EE} (he : SE G E te f) : SI G E (tSeqI G.K te) (iSeq f) := by
  intro w sv sd st R rel sl h
  unfold iSeq at h
  cases q : f sd st with
  | stk => rw [q] at h; exact h.elim
  | ex c st1 =>
    rw [q] at h
    exact .inl (he w sv sd st _ rel sl (by rw [q]; exact h))
  | ok d st1 =>
    rw [q] at h
    have plain : ∀ xs, seqN d = some xs → Post G (RI G) w (Res.ok ((fun _ i => some xs[i]?, xs.length) : ItD × Nat) st1) R (E sv) → tSeqI G.K te sv w.H R := fun xs hs h => by
      cases hd : d with
      | tup ys =>
        rw [hd] at hs q
        cases hs
        refine .inr (he w sv sd st _ rel sl ?_)
        rw [q]
        intro w1 v s1 r1 rv
        obtain ⟨a, vs, rfl, k1, k2⟩ := Rep.tup_inv rv
        exact ⟨a, rfl, ⟨vs, Evl.ex_t r1.sub k1⟩, h w1 _ s1 r1 (it_t k1 k2)⟩
      | lst ys =>
        rw [hd] at hs q
        cases hs
        refine .inl (he w sv sd st _ rel sl ?_)
        rw [q]
        intro w1 v s1 r1 rv
        obtain ⟨a, vs, rfl, k1, k2⟩ := Rep.lst_inv rv
        exact ⟨a, rfl, ⟨vs, SqL.of (r1.sub _ _ k1)⟩, h w1 _ s1 r1 (it_l (SqL.of k1) k2)⟩
      | scr ys =>
        rw [hd] at hs q
        cases hs
        refine .inl (he w sv sd st _ rel sl ?_)
        rw [q]
        intro w1 v s1 r1 rv
        cases rv with
        | scr k1 k2 k3 => exact ⟨_, rfl, ⟨_, Evl.ex_l r1.sub k1⟩, h w1 _ s1 r1 (it_l k1 ⟨k2, k3⟩)⟩
      | _ => rw [hd] at hs; cases hs
    cases hd : d with
    | hnd i =>
      rw [hd] at h q
      have h : Post G (RI G) w (match cellAt st1 i with
        | some xs => Res.ok ((fun st j => (cellAt st i).map fun ys => ys[j]?, xs.length) : ItD × Nat) st1
        | none => .stk) R (E sv) := h
      cases hc : cellAt st1 i with
      | none => rw [hc] at h; exact h.elim
      | some xs =>
        rw [hc] at h
        refine .inl (he w sv sd st _ rel sl ?_)
        rw [q]
        intro w1 v s1 r1 rv
        obtain ⟨a, vs, rfl, k0, k1, k2, k3⟩ := cell_rep r1 rv hc
        refine ⟨a, rfl, ⟨vs, SqL.of k2⟩, h w1 _ s1 r1 (it_fix fun w2 st2 s2 r2 j => ⟨fun d e => ?_, fun e => ?_⟩)⟩
        · have e : (cellAt st2 i).map (fun ys => ys[j]?) = some (some d) := e
          cases hz : cellAt st2 i with
          | none => rw [hz] at e; cases e
          | some ys =>
            rw [hz] at e
            have e : ys[j]? = some d := Option.some.inj e
            obtain ⟨a2, us, e2, _, _, z2, z3⟩ := cell_rep r2 (Rep.step s2 rv) hz
            cases e2
            obtain ⟨u, hu, ru⟩ := z3.get e
            exact ⟨⟨us, u, SqL.of z2, hu⟩, fun x H' y => ⟨y.1, z3.2 j x d (y.2 us (SqL.of z2)) e⟩⟩
        · have e : (cellAt st2 i).map (fun ys => ys[j]?) = some none := e
          cases hz : cellAt st2 i with
          | none => rw [hz] at e; cases e
          | some ys =>
            rw [hz] at e
            have e : ys[j]? = none := Option.some.inj e
            obtain ⟨a2, us, e2, _, _, z2, z3⟩ := cell_rep r2 (Rep.step s2 rv) hz
            cases e2
            exact ⟨us, SqL.of z2, List.getElem?_eq_none_iff.mp (z3.none e)⟩
    | tup ys => exact plain ys (by rw [hd]; rfl) (by rw [hd] at h; exact h)
    | lst ys => exact plain ys (by rw [hd]; rfl) (by rw [hd] at h; exact h)
    | scr ys => exact plain ys (by rw [hd]; rfl) (by rw [hd] at h; exact h)
    | _ => rw [hd] at h; exact h.elim
/-- range -/
def rngD (lo c : Int) (n : Nat) : ItD := fun _ i => some (if i < n then some (.int (lo + (i : Int) * c)) else none)
theorem it_r {w1 : Wd} {lo : Int} {n : Nat} : ItOk G w1 (Itr lo n) (rngD lo 1 n) := by
  refine it_fix fun w st s rel i => ⟨fun d e => ?_, fun e => ?_⟩
  · have e : (if i < n then some (D.int (lo + (i : Int) * 1)) else none) = some d := Option.some.inj e
    split at e
    · rename_i hi
      cases e
      refine ⟨hi, fun x H' y => ⟨y.1, ?_⟩⟩
      rw [y.2, Int.mul_one]
      exact .int _
    · cases e
  · have e : (if i < n then some (D.int (lo + (i : Int) * 1)) else none) = none := Option.some.inj e
    split at e
    · cases e
    · rename_i hi
      exact Nat.le_of_not_lt hi
theorem it_c {w1 : Wd} {lo c : Int} {n : Nat} : ItOk G w1 (Itc lo c n) (rngD lo c n) := by
  refine it_fix fun w st s rel i => ⟨fun d e => ?_, fun e => ?_⟩
  · have e : (if i < n then some (D.int (lo + (i : Int) * c)) else none) = some d := Option.some.inj e
    split at e
    · rename_i hi
      cases e
      refine ⟨hi, fun x H' y => ⟨y.1, ?_⟩⟩
      rw [y.2]
      exact .int _
    · cases e
  · have e : (if i < n then some (D.int (lo + (i : Int) * c)) else none) = none := Option.some.inj e
    split at e
    · cases e
    · rename_i hi
      exact Nat.le_of_not_lt hi
def near (i : Int) : Bool := decide (-2 ^ 62 ≤ i) && decide (i < 2 ^ 62)
def rngOf : List D → Option (Int × Int × Nat)
  | [.int j] => if near j then some (0, 1, j.toNat) else none
  | [.int i, .int j] => if near i && near j then some (i, 1, (j - i).toNat) else none
  | [.int i, .int j, .int c] => if c ≠ 0 ∧ c.natAbs < 1073741824 ∧ Builtin.Range.small i j c = true then some (i, c, (Builtin.Range.rangeSize i j c).toNat) else none
  | _ => none
def iRng (f : EA) : EI := fun sd st => (f sd st).bind fun ds st1 => match rngOf ds with
  | some (lo, c, n) => .ok (rngD lo c n, n) st1
  | none => .stk
def iRngN (k : Nat) (f : EA) : EI := fun sd st => (f sd st).bind fun ds st1 => if ds.length = k then iRng (fun _ st => .ok ds st) sd st1 else .stk
theorem si_rng1 {E : L2.St → XK} {ta : TA} {f : EA} (he : SA G E ta f) : SI G E (iRng1 ta) (iRngN 1 f) := by
  intro w sv sd st R rel sl h
  refine he w sv sd st _ rel sl ((Post.bind h).imp ?_)
  rintro vs _ ⟨w1, ds, st1, rfl, s1, r1, rs, h1⟩
  have h1 := h1.step anI s1
  split at h1
  · rename_i hl
    obtain ⟨d, rfl⟩ : ∃ d, ds = [d] := by
      match ds, hl with
      | [d], _ => exact ⟨d, rfl⟩
    obtain ⟨v, rfl, rv⟩ := one_rep rs
    cases d with
    | int j =>
      have h1 : Post G (RI G) w1 (match (if near j then some ((0 : Int), (1 : Int), j.toNat) else none) with
        | some (lo, c, n) => Res.ok ((rngD lo c n, n) : ItD × Nat) st1
        | none => .stk) R (E sv) := h1
      by_cases hn : near j = true
      · rw [if_pos hn] at h1
        simp only [near, Bool.and_eq_true, decide_eq_true_eq] at hn
        rw [int_rep rv]
        exact ⟨j, rfl, hn.1, hn.2, h1 w1 _ (Step.refl _) r1 it_r⟩
      · rw [if_neg hn] at h1
        exact h1.elim
    | _ => exact h1.elim
  · exact h1.elim
theorem si_rng2 {E : L2.St → XK} {ta : TA} {f : EA} (he : SA G E ta f) : SI G E (iRng2 ta) (iRngN 2 f) := by
  intro w sv sd st R rel sl h
  refine he w sv sd st _ rel sl ((Post.bind h).imp ?_)
  rintro vs _ ⟨w1, ds, st1, rfl, s1, r1, rs, h1⟩
  have h1 := h1.step anI s1
  split at h1
  · rename_i hl
    obtain ⟨d, d2, rfl⟩ : ∃ d d2, ds = [d, d2] := by
      match ds, hl with
      | [d, d2], _ => exact ⟨d, d2, rfl⟩
    obtain ⟨v, u, rfl, rv, ru⟩ := two_rep rs
    cases d with
    | int i =>
      cases d2 with
      | int j =>
        have h1 : Post G (RI G) w1 (match (if near i && near j then some (i, (1 : Int), (j - i).toNat) else none) with
          | some (lo, c, n) => Res.ok ((rngD lo c n, n) : ItD × Nat) st1
          | none => .stk) R (E sv) := h1
        by_cases hn : (near i && near j) = true
        · rw [if_pos hn] at h1
          simp only [near, Bool.and_eq_true, decide_eq_true_eq] at hn
          rw [int_rep rv, int_rep ru]
          exact ⟨i, j, rfl, ⟨hn.1.1, hn.1.2, hn.2.1, hn.2.2⟩, h1 w1 _ (Step.refl _) r1 it_r⟩
        · rw [if_neg hn] at h1
          exact h1.elim
      | _ => exact h1.elim
    | _ => exact h1.elim
  · exact h1.elim
theorem rsize_nn (i j c : Int) : 0 ≤ Builtin.Range.rangeSize i j c := by
  unfold Builtin.Range.rangeSize
  split
  · split
    · have := Int.ediv_nonneg (a := j - i - 1) (b := c) (by omega) (by omega)
      omega
    · omega
  · split
    · have := Int.ediv_nonneg (a := i - j - 1) (b := -c) (by omega) (by omega)
      omega
    · omega
theorem si_rng3 {E : L2.St → XK} {ta : TA} {f : EA} (he : SA G E ta f) : SI G E (iRng3 ta) (iRngN 3 f) := by
  intro w sv sd st R rel sl h
  refine he w sv sd st _ rel sl ((Post.bind h).imp ?_)
  rintro vs _ ⟨w1, ds, st1, rfl, s1, r1, rs, h1⟩
  have h1 := h1.step anI s1
  split at h1
  · rename_i hl
    obtain ⟨d, d2, d3, rfl⟩ : ∃ d d2 d3, ds = [d, d2, d3] := by
      match ds, hl with
      | [d, d2, d3], _ => exact ⟨d, d2, d3, rfl⟩
    obtain ⟨v, us, rfl, rv, rs2⟩ := rs.inv_cons'
    obtain ⟨u, t, rfl, ru, rt⟩ := two_rep rs2
    cases d with
    | int i =>
      cases d2 with
      | int j =>
        cases d3 with
        | int c =>
          have h1 : Post G (RI G) w1 (match (if c ≠ 0 ∧ c.natAbs < 1073741824 ∧ Builtin.Range.small i j c = true then some (i, c, (Builtin.Range.rangeSize i j c).toNat) else none) with
            | some (lo, c, n) => Res.ok ((rngD lo c n, n) : ItD × Nat) st1
            | none => .stk) R (E sv) := h1
          by_cases hn : c ≠ 0 ∧ c.natAbs < 1073741824 ∧ Builtin.Range.small i j c = true
          · rw [if_pos hn] at h1
            rw [int_rep rv, int_rep ru, int_rep rt]
            exact ⟨i, j, c, _, rfl, ⟨hn.1, hn.2.1, hn.2.2, (Int.toNat_of_nonneg (rsize_nn i j c)).symm⟩, h1 w1 _ (Step.refl _) r1 it_c⟩
          · rw [if_neg hn] at h1
            exact h1.elim
        | _ => exact h1.elim
      | _ => exact h1.elim
    | _ => exact h1.elim
  · exact h1.elim
/-- enumerate: a new pair at each turn -/
def enumD (g : ItD) : ItD := fun st i => (g st i).map fun o => o.map fun d => .tup [.int (i : Nat), d]
def iEnu (f : EE) : EI := fun sd st => (iSeq f sd st).bind fun p st1 => .ok (enumD p.1, p.2) st1
/-- a new tuple of what is at hand -/
theorem it_new {w1 : Wd} {J : It} {it : ItD} (h : ∀ w st, Step w1 w → Rel G w st → ∀ i, (∀ d, it st i = some (some d) → J.go i w.H ∧ ∀ x H', J.yld i w.H x H' → ∃ T vs ds, x = .ref T ∧ w.H T = none ∧ H' = upd w.H T (.tup vs) ∧ d = .tup ds ∧ Reps G w.I w.ph vs ds) ∧ (it st i = some none → J.stop i w.H)) : ItOk G w1 J it := by
  intro w st s rel i
  obtain ⟨a, b⟩ := h w st s rel i
  refine ⟨fun d e => ⟨(a d e).1, fun x H' y => ?_⟩, b⟩
  obtain ⟨T, vs, ds, rfl, hT, rfl, rfl, rs⟩ := (a d e).2 x H' y
  exact ⟨w.addI T (.tup vs), rfl, step_addI rel hT, rel.addI hT, Rep.tup' (SqT.of upd_same) (rs.step (step_addI rel hT))⟩
/-- what a sequence gives at each turn, for rules that build on it -/
def SeqAt2 (G : Md) (w1 : Wd) (v : V) (g : ItD) (F : Addr → List V → Hp → Prop) : Prop := ∃ a, v = .ref a ∧ ∀ w st, Step w1 w → Rel G w st → ∀ i, (∀ o, g st i = some o → ∃ vs, F a vs w.H ∧ match o with
  | some d => ∃ u, vs[i]? = some u ∧ Rep G w.I w.ph u d
  | none => vs.length ≤ i)
theorem seqAt_l {w1 : Wd} {a : Addr} {vs : List V} {xs : List D} (h : SqL G.K w1.I a vs) (rs : Reps G w1.I w1.ph vs xs) : SeqAt2 G w1 (.ref a) (fun _ i => some xs[i]?) (fun a vs H => SqL G.K H a vs) := by
  refine ⟨a, rfl, fun w st s rel i o e => ⟨vs, Evl.ex_l rel.sub (Evl.ex_l s.im h), ?_⟩⟩
  have e : xs[i]? = o := Option.some.inj e
  cases o with
  | some d => exact (rs.step s).get e
  | none => exact List.getElem?_eq_none_iff.mp (rs.none e)
theorem seqAt_t {w1 : Wd} {a : Addr} {vs : List V} {xs : List D} (h : SqT G.K w1.I a vs) (rs : Reps G w1.I w1.ph vs xs) : SeqAt2 G w1 (.ref a) (fun _ i => some xs[i]?) (fun a vs H => SqT G.K H a vs) := by
  refine ⟨a, rfl, fun w st s rel i o e => ⟨vs, Evl.ex_t rel.sub (Evl.ex_t s.im h), ?_⟩⟩
  have e : xs[i]? = o := Option.some.inj e
  cases o with
  | some d => exact (rs.step s).get e
  | none => exact List.getElem?_eq_none_iff.mp (rs.none e)
theorem seqAt_h {w1 : Wd} {st1 : Sto} {v : V} {i : Nat} {xs : List D} (r1 : Rel G w1 st1) (rv : Rep G w1.I w1.ph v (.hnd i)) (hc : cellAt st1 i = some xs) : SeqAt2 G w1 v (fun st j => (cellAt st i).map fun ys => ys[j]?) (fun a vs H => SqL G.K H a vs) := by
  obtain ⟨a, vs, rfl, k0, k1, k2, k3⟩ := cell_rep r1 rv hc
  refine ⟨a, rfl, fun w2 st2 s2 r2 j o e => ?_⟩
  have e : (cellAt st2 i).map (fun ys => ys[j]?) = some o := e
  cases hz : cellAt st2 i with
  | none => rw [hz] at e; cases e
  | some ys =>
    rw [hz] at e
    have e : ys[j]? = o := Option.some.inj e
    obtain ⟨a2, us, e2, _, _, z2, z3⟩ := cell_rep r2 (Rep.step s2 rv) hz
    cases e2
    refine ⟨us, SqL.of z2, ?_⟩
    cases o with
    | some d => exact z3.get e
    | none => exact List.getElem?_eq_none_iff.mp (z3.none e)
def SeqLT (G : Md) (w1 : Wd) (v : V) (g : ItD) : Prop := SeqAt2 G w1 v g (fun a vs H => SqL G.K H a vs) ∨ SeqAt2 G w1 v g (fun a vs H => SqT G.K H a vs)
def RQ (G : Md) : RR V (ItD × Nat) := fun _ w' v p => SeqLT G w' v p.1
def isT : D → Bool
  | .tup _ => true
  | _ => false
/-- a sequence's turns, by its datum -/
def seqI (st1 : Sto) (d : D) : Option (ItD × Nat) := match d with
  | .hnd h => (cellAt st1 h).map fun xs => (fun st i => (cellAt st h).map fun ys => ys[i]?, xs.length)
  | d => (seqN d).map fun xs => (fun _ i => some xs[i]?, xs.length)
theorem iSeq_eq (f : EE) (sd : Sl) (st : Sto) : iSeq f sd st = (f sd st).bind fun d st1 => Res.ofO (seqI st1 d) st1 := by
  unfold iSeq
  cases f sd st with
  | ok d st1 =>
    show (match d with
      | .hnd h => _
      | d => _) = Res.ofO (seqI st1 d) st1
    cases d with
    | hnd h =>
      show (match cellAt st1 h with
        | some xs => _
        | none => _) = Res.ofO ((cellAt st1 h).map _) st1
      cases cellAt st1 h <;> rfl
    | _ => rfl
  | ex c st1 => rfl
  | stk => rfl
theorem seqI_l {w1 : Wd} {st1 : Sto} {v : V} {d : D} {p : ItD × Nat} (r1 : Rel G w1 st1) (rv : Rep G w1.I w1.ph v d) (h : seqI st1 d = some p) (ht : isT d = false) : SeqAt2 G w1 v p.1 (fun a vs H => SqL G.K H a vs) := by
  cases d with
  | hnd i =>
    have h : (cellAt st1 i).map (fun xs => ((fun st j => (cellAt st i).map fun ys => ys[j]?, xs.length) : ItD × Nat)) = some p := h
    cases hc : cellAt st1 i with
    | none => rw [hc] at h; cases h
    | some xs =>
      rw [hc] at h
      cases h
      exact seqAt_h r1 rv hc
  | tup ys => cases ht
  | lst ys =>
    cases h
    obtain ⟨a, vs, rfl, k1, k2⟩ := Rep.lst_inv rv
    exact seqAt_l (SqL.of k1) k2
  | scr ys =>
    cases h
    cases rv with
    | scr k1 k2 k3 => exact seqAt_l k1 ⟨k2, k3⟩
  | _ => cases h
theorem seqI_t {w1 : Wd} {st1 : Sto} {v : V} {d : D} {p : ItD × Nat} (rv : Rep G w1.I w1.ph v d) (h : seqI st1 d = some p) (ht : isT d = true) : SeqAt2 G w1 v p.1 (fun a vs H => SqT G.K H a vs) := by
  cases d with
  | tup ys =>
    cases h
    obtain ⟨a, vs, rfl, k1, k2⟩ := Rep.tup_inv rv
    exact seqAt_t k1 k2
  | _ => cases ht
theorem it_enu {w1 : Wd} {v : V} {g : ItD} {F : Addr → List V → Hp → Prop} {J : Addr → It} (h : SeqAt2 G w1 v g F)
    (hgo : ∀ a vs H i u, F a vs H → vs[i]? = some u → (J a).go i H) (hy : ∀ a vs H i x H', F a vs H → (J a).yld i H x H' → ∃ T u, x = .ref T ∧ H T = none ∧ H' = upd H T (.tup [.int (i : Nat), u]) ∧ vs[i]? = some u) (hst : ∀ a vs H i, F a vs H → vs.length ≤ i → (J a).stop i H) : ∃ a, v = .ref a ∧ ItOk G w1 (J a) (enumD g) := by
  obtain ⟨a, rfl, k⟩ := h
  refine ⟨a, rfl, it_new fun w st s rel i => ⟨fun d e => ?_, fun e => ?_⟩⟩
  · have e : (g st i).map (fun o => o.map fun d => D.tup [.int (i : Nat), d]) = some (some d) := e
    cases q : g st i with
    | none => rw [q] at e; cases e
    | some o =>
      rw [q] at e
      cases o with
      | none => cases e
      | some d0 =>
        have e : D.tup [.int (i : Nat), d0] = d := Option.some.inj (Option.some.inj e)
        obtain ⟨vs, h1, u, h2, h3⟩ := k w st s rel i _ q
        refine ⟨hgo a vs w.H i u h1 h2, fun x H' y => ?_⟩
        obtain ⟨T, u2, e1, e2, e3, e4⟩ := hy a vs w.H i x H' h1 y
        rw [h2] at e4
        cases e4
        exact ⟨T, _, _, e1, e2, e3, e.symm, Reps.cons (.int _) (Reps.cons h3 Reps.nil)⟩
  · have e : (g st i).map (fun o => o.map fun d => D.tup [.int (i : Nat), d]) = some none := e
    cases q : g st i with
    | none => rw [q] at e; cases e
    | some o =>
      rw [q] at e
      cases o with
      | some d0 => cases e
      | none =>
        obtain ⟨vs, h1, h2⟩ := k w st s rel i _ q
        exact hst a vs w.H i h1 h2
def tEnuI (K : PySem.W.Frag) (te : TE) : TI := fun σ H R => iEnum K (tCons te tNil) σ H R ∨ iEnumT K (tCons te tNil) σ H R
theorem si_enu {E : L2.St → XK} {te : TE} {f : EE} (he : SE G E te f) : SI G E (tEnuI G.K te) (iEnu f) := by
  intro w sv sd st R rel sl h
  unfold iEnu at h
  rw [iSeq_eq] at h
  cases q : f sd st with
  | stk => rw [q] at h; exact h.elim
  | ex c st1 =>
    rw [q] at h
    exact .inl (he w sv sd st _ rel sl (by rw [q]; exact h))
  | ok d st1 =>
    rw [q] at h
    have h : Post G (RI G) w ((Res.ofO (seqI st1 d) st1).bind fun p st1 => Res.ok ((enumD p.1, p.2) : ItD × Nat) st1) R (E sv) := h
    cases hp : seqI st1 d with
    | none => rw [hp] at h; exact h.elim
    | some p =>
      rw [hp] at h
      have h : Post G (RI G) w (Res.ok ((enumD p.1, p.2) : ItD × Nat) st1) R (E sv) := h
      cases ht : isT d with
      | true =>
        refine .inr (he w sv sd st _ rel sl ?_)
        rw [q]
        intro w1 v s1 r1 rv
        obtain ⟨a, rfl, k⟩ := it_enu (J := Itu G.K) (seqI_t rv hp ht) (fun a vs H i u h1 h2 => ⟨vs, u, h1, h2⟩) (fun a vs H i x H' h1 y => by
          obtain ⟨T, u, e1, e2, e3, e4⟩ := y
          exact ⟨T, u, e1, e2, e3, e4 vs h1⟩) (fun a vs H i h1 h2 => ⟨vs, h1, h2⟩)
        have hz : ∃ vs, SqT G.K w1.H a vs := by
          cases d with
          | tup ys =>
            obtain ⟨b, vs, e, k1, _⟩ := Rep.tup_inv rv
            cases e
            exact ⟨vs, Evl.ex_t r1.sub k1⟩
          | _ => cases ht
        obtain ⟨vs, hz⟩ := hz
        exact ⟨a, vs, rfl, hz, h w1 _ s1 r1 k⟩
      | false =>
        refine .inl (he w sv sd st _ rel sl ?_)
        rw [q]
        intro w1 v s1 r1 rv
        obtain ⟨a, rfl, k⟩ := it_enu (J := Ite G.K) (seqI_l r1 rv hp ht) (fun a vs H i u h1 h2 => ⟨vs, u, h1, h2⟩) (fun a vs H i x H' h1 y => by
          obtain ⟨T, u, e1, e2, e3, e4⟩ := y
          exact ⟨T, u, e1, e2, e3, e4 vs h1⟩) (fun a vs H i h1 h2 => ⟨vs, h1, h2⟩)
        have hz : ∃ vs, SqL G.K w1.H a vs := by
          cases d with
          | tup ys => cases ht
          | lst ys =>
            obtain ⟨b, vs, e, k1, _⟩ := lst_rep (xs := ys) r1 rv rfl
            cases e
            exact ⟨vs, k1⟩
          | scr ys =>
            obtain ⟨b, vs, e, k1, _⟩ := lst_rep (xs := ys) r1 rv rfl
            cases e
            exact ⟨vs, k1⟩
          | hnd i =>
            cases hc : cellAt st1 i with
            | none =>
              have hp : (cellAt st1 i).map _ = some p := hp
              rw [hc] at hp
              cases hp
            | some xs =>
              obtain ⟨b, vs, e, k1, _⟩ := lst_rep (xs := xs) r1 rv hc
              cases e
              exact ⟨vs, k1⟩
          | _ => cases hp
        obtain ⟨vs, hz⟩ := hz
        exact ⟨a, vs, rfl, hz, h w1 _ s1 r1 k⟩
/-- zip of two sequences that stay, both lists or both tuples -/
def zipD (xs ys : List D) : ItD := fun _ i => some (match xs[i]?, ys[i]? with
  | some x, some y => some (.tup [x, y])
  | _, _ => none)
def iZip2 (f : EA) : EI := fun sd st => (f sd st).bind fun ds st1 => match ds with
  | [a, b] => if isT a = isT b then match seqN a, seqN b with
    | some xs, some ys => .ok (zipD xs ys, xs.length) st1
    | _, _ => .stk
    else .stk
  | _ => .stk
theorem it_zip {w1 : Wd} {J : It} {F : Addr → List V → Hp → Prop} {a b : Addr} {vs us : List V} {xs ys : List D} (hF : ∀ w, Step w1 w → Evl.Ex w.I w.H → F a vs w.H ∧ F b us w.H) (rx : Reps G w1.I w1.ph vs xs) (ry : Reps G w1.I w1.ph us ys)
    (hgo : ∀ H i x y, F a vs H → F b us H → vs[i]? = some x → us[i]? = some y → J.go i H) (hy : ∀ H i v H', F a vs H → F b us H → J.yld i H v H' → ∃ T x y, v = .ref T ∧ H T = none ∧ H' = upd H T (.tup [x, y]) ∧ vs[i]? = some x ∧ us[i]? = some y)
    (hst : ∀ H i, F a vs H → F b us H → (vs.length ≤ i ∨ us.length ≤ i) → J.stop i H) : ItOk G w1 J (zipD xs ys) := by
  refine it_new fun w st s rel i => ?_
  obtain ⟨f1, f2⟩ := hF w s rel.sub
  have rx := rx.step s
  have ry := ry.step s
  refine ⟨fun d e => ?_, fun e => ?_⟩
  · have e : (match xs[i]?, ys[i]? with
      | some x, some y => some (D.tup [x, y])
      | _, _ => none) = some d := Option.some.inj e
    cases q1 : xs[i]? with
    | none => rw [q1] at e; cases e
    | some x =>
      cases q2 : ys[i]? with
      | none => rw [q1, q2] at e; cases e
      | some y =>
        rw [q1, q2] at e
        cases e
        obtain ⟨v, hv, rv⟩ := rx.get q1
        obtain ⟨u, hu, ru⟩ := ry.get q2
        refine ⟨hgo _ i v u f1 f2 hv hu, fun z H' yy => ?_⟩
        obtain ⟨T, v2, u2, e1, e2, e3, e4, e5⟩ := hy _ i z H' f1 f2 yy
        rw [hv] at e4
        rw [hu] at e5
        cases e4
        cases e5
        exact ⟨T, _, _, e1, e2, e3, rfl, Reps.cons rv (Reps.cons ru Reps.nil)⟩
  · have e : (match xs[i]?, ys[i]? with
      | some x, some y => some (D.tup [x, y])
      | _, _ => none) = none := Option.some.inj e
    refine hst _ i f1 f2 ?_
    cases q1 : xs[i]? with
    | none => exact .inl (List.getElem?_eq_none_iff.mp (rx.none q1))
    | some x =>
      cases q2 : ys[i]? with
      | none => exact .inr (List.getElem?_eq_none_iff.mp (ry.none q2))
      | some y => rw [q1, q2] at e; cases e
theorem si_zip {E : L2.St → XK} {ta : TA} {f : EA} (he : SA G E ta f) : SI G E (RZ.iZipA G.K ta) (iZip2 f) := by
  intro w sv sd st R rel sl h
  refine he w sv sd st _ rel sl ((Post.bind h).imp ?_)
  rintro vs _ ⟨w1, ds, st1, rfl, s1, r1, rs, h1⟩
  have h1 := h1.step anI s1
  match ds, rs, h1 with
  | [da, db], rs, h1 =>
    have h1 : Post G (RI G) w1 (if isT da = isT db then match seqN da, seqN db with
      | some xs, some ys => Res.ok ((zipD xs ys, xs.length) : ItD × Nat) st1
      | _, _ => .stk
      else .stk) R (E sv) := h1
    by_cases ht : isT da = isT db
    · rw [if_pos ht] at h1
      cases q1 : seqN da with
      | none => rw [q1] at h1; exact h1.elim
      | some xs =>
        cases q2 : seqN db with
        | none => rw [q1, q2] at h1; exact h1.elim
        | some ys =>
          rw [q1, q2] at h1
          have h1 : Post G (RI G) w1 (Res.ok ((zipD xs ys, xs.length) : ItD × Nat) st1) R (E sv) := h1
          obtain ⟨va, vb, rfl, ra, rb⟩ := two_rep rs
          cases hA : isT da with
          | true =>
            rw [hA] at ht
            cases da with
            | tup xs' =>
              cases db with
              | tup ys' =>
                cases q1
                cases q2
                obtain ⟨a, vs, rfl, k1, k2⟩ := Rep.tup_inv ra
                obtain ⟨b, us, rfl, l1, l2⟩ := Rep.tup_inv rb
                refine ⟨a, b, vs, us, rfl, .inr ⟨Evl.ex_t r1.sub k1, Evl.ex_t r1.sub l1, h1 w1 _ (Step.refl _) r1 (it_zip (F := fun a vs H => SqT G.K H a vs) (fun w s e => ⟨Evl.ex_t e (Evl.ex_t s.im k1), Evl.ex_t e (Evl.ex_t s.im l1)⟩) k2 l2 (fun H i x y f1 f2 a1 a2 => ?_) (fun H i v H' f1 f2 yy => ?_) (fun H i f1 f2 hh => ?_))⟩⟩
                · exact ⟨vs, us, x, y, f1, f2, a1, a2⟩
                · obtain ⟨T, x, y, e1, e2, e3, e4, e5⟩ := yy
                  exact ⟨T, x, y, e1, e2, e3, e4 vs f1, e5 us f2⟩
                · exact ⟨vs, us, f1, f2, hh⟩
              | _ => cases ht
            | _ => cases hA
          | false =>
            rw [hA] at ht
            have ka : ∃ a vs, va = .ref a ∧ SqL G.K w1.I a vs ∧ Reps G w1.I w1.ph vs xs := by
              cases da with
              | tup zs => cases hA
              | lst zs => cases q1; obtain ⟨a, vs, e, k1, k2⟩ := Rep.lst_inv ra; exact ⟨a, vs, e, SqL.of k1, k2⟩
              | scr zs =>
                cases q1
                cases ra with
                | scr k1 k2 k3 => exact ⟨_, _, rfl, k1, k2, k3⟩
              | _ => cases q1
            have kb : ∃ a vs, vb = .ref a ∧ SqL G.K w1.I a vs ∧ Reps G w1.I w1.ph vs ys := by
              cases db with
              | tup zs => cases ht
              | lst zs => cases q2; obtain ⟨a, vs, e, k1, k2⟩ := Rep.lst_inv rb; exact ⟨a, vs, e, SqL.of k1, k2⟩
              | scr zs =>
                cases q2
                cases rb with
                | scr k1 k2 k3 => exact ⟨_, _, rfl, k1, k2, k3⟩
              | _ => cases q2
            obtain ⟨a, vs, rfl, k1, k2⟩ := ka
            obtain ⟨b, us, rfl, l1, l2⟩ := kb
            refine ⟨a, b, vs, us, rfl, .inl ⟨Evl.ex_l r1.sub k1, Evl.ex_l r1.sub l1, h1 w1 _ (Step.refl _) r1 (it_zip (F := fun a vs H => SqL G.K H a vs) (fun w s e => ⟨Evl.ex_l e (Evl.ex_l s.im k1), Evl.ex_l e (Evl.ex_l s.im l1)⟩) k2 l2 (fun H i x y f1 f2 a1 a2 => ?_) (fun H i v H' f1 f2 yy => ?_) (fun H i f1 f2 hh => ?_))⟩⟩
            · exact ⟨vs, us, x, y, f1, f2, a1, a2⟩
            · obtain ⟨T, x, y, e1, e2, e3, e4, e5⟩ := yy
              exact ⟨T, x, y, e1, e2, e3, e4 vs f1, e5 us f2⟩
            · exact ⟨vs, us, f1, f2, hh⟩
    · rw [if_neg ht] at h1
      exact h1.elim
  | [], rs, h1 => exact h1.elim
  | [_], rs, h1 => exact h1.elim
  | _ :: _ :: _ :: _, rs, h1 => exact h1.elim
end
end DS
namespace DS
open PySem PySem.Spec PyProof.Rows L2
section
variable {G : Md}
/-! ### lists that change -/
def cellOf (st : Sto) : D → Option (Nat × List D)
  | .hnd i => (cellAt st i).map fun xs => (i, xs)
  | _ => none
theorem cellOf_rep {w : Wd} {st : Sto} {v : V} {d : D} {i : Nat} {xs : List D} (rel : Rel G w st) (h : Rep G w.I w.ph v d) (e : cellOf st d = some (i, xs)) :
    d = .hnd i ∧ ∃ a vs, v = .ref a ∧ w.ph[i]? = some a ∧ w.I a = none ∧ w.H a = some (.lst vs) ∧ Reps G w.I w.ph vs xs := by
  cases d with
  | hnd j =>
    have e : (cellAt st j).map (fun xs => (j, xs)) = some (i, xs) := e
    cases q : cellAt st j with
    | none => rw [q] at e; cases e
    | some ys =>
      rw [q] at e
      cases e
      exact ⟨rfl, cell_rep rel h q⟩
  | _ => cases e
theorem Rel.put2 {w : Wd} {st : Sto} {i : Nat} {a : Addr} {vs : List V} {xs : List D} (rel : Rel G w st) (hi : w.ph[i]? = some a) (hI : w.I a = none) (rs : Reps G w.I w.ph vs xs) : Step w (w.put a vs) ∧ Rel G (w.put a vs) (st.set i (.lst xs)) := ⟨step_put (List.mem_of_getElem? hi), rel.put hi hI rs⟩
def eApp (fo fe : EE) : EE := fun sd st => (fo sd st).bind fun o st1 => match cellOf st1 o with
  | some _ => (fe sd st1).bind fun y st2 => match cellOf st2 o with
    | some (i, xs) => if xs.length < lineN then .ok .non (st2.set i (.lst (xs ++ [y]))) else .stk
    | none => .stk
  | none => .stk
theorem se_app {E : L2.St → XK} {to te : TE} {fo fe : EE} (ho : SE G E to fo) (he : SE G E te fe) : SE G E (tBM G.K "list" rAppend to (tCons te tNil)) (eApp fo fe) := by
  intro w sv sd st Q rel sl h
  refine ho w sv sd st _ rel sl ((Post.bind h).imp ?_)
  rintro o _ ⟨w1, d0, st1, rfl, s1, r1, ro, h1⟩
  have h1 := h1.step anE s1
  cases q : cellOf st1 d0 with
  | none => rw [q] at h1; exact h1.elim
  | some p =>
    rw [q] at h1
    obtain ⟨i, xs⟩ := p
    obtain ⟨rfl, a, vs, rfl, k1, k2, k3, k4⟩ := cellOf_rep r1 ro q
    refine ⟨.inl ⟨rfl, vs, SqL.of k3⟩, ?_⟩
    refine he w1 sv sd st1 _ r1 (sl.step s1) ((Post.bind h1).imp ?_)
    rintro y _ ⟨w2, dy, st2, rfl, s2, r2, ry, h2⟩
    have h2 := h2.step anE s2
    cases q2 : cellOf st2 (.hnd i) with
    | none => rw [q2] at h2; exact h2.elim
    | some p2 =>
      rw [q2] at h2
      obtain ⟨j, ys⟩ := p2
      obtain ⟨e, b, us, eb, l1, l2, l3, l4⟩ := cellOf_rep r2 (Rep.step s2 ro) q2
      cases e
      cases eb
      have h2 : Post G (RE G) w2 (if ys.length < lineN then .ok .non (st2.set i (.lst (ys ++ [dy]))) else .stk) Q (E sv) := h2
      split at h2
      · rename_i hl
        have rs := l4.append (Reps.cons ry Reps.nil)
        obtain ⟨s3, r3⟩ := r2.put2 l1 l2 rs
        exact ⟨a, us, y, rfl, rfl, l3, by rw [l4.1]; exact Nat.lt_of_lt_of_le hl (line_ok (Nat.le_refl _)), h2 _ _ s3 r3 .non⟩
      · exact h2.elim
def ePop (fo : EE) : EE := fun sd st => (fo sd st).bind fun o st1 => match cellOf st1 o with
  | some (i, xs) => match xs[xs.length - 1]? with
    | some y => .ok y (st1.set i (.lst xs.dropLast))
    | none => .stk
  | none => .stk
theorem se_pop {E : L2.St → XK} {to : TE} {fo : EE} (ho : SE G E to fo) : SE G E (tBM0 G.K "list" rPop to) (ePop fo) := by
  intro w sv sd st Q rel sl h
  refine ho w sv sd st _ rel sl ((Post.bind h).imp ?_)
  rintro o _ ⟨w1, d0, st1, rfl, s1, r1, ro, h0⟩
  have h1 := h0.step anE s1
  clear h0
  cases q : cellOf st1 d0 with
  | none => rw [q] at h1; exact h1.elim
  | some p =>
    rw [q] at h1
    obtain ⟨i, xs⟩ := p
    obtain ⟨rfl, a, vs, rfl, k1, k2, k3, k4⟩ := cellOf_rep r1 ro q
    replace h1 : Post G (RE G) w1 (match xs[xs.length - 1]? with
      | some y => .ok y (st1.set i (.lst xs.dropLast))
      | none => .stk) Q (E sv) := h1
    cases e : xs[xs.length - 1]? with
    | none => rw [e] at h1; exact h1.elim
    | some y =>
      rw [e] at h1
      obtain ⟨v, hv, rv⟩ := k4.get e
      have rs : Reps G w1.I w1.ph vs.dropLast xs.dropLast := by
        rw [List.dropLast_eq_take, List.dropLast_eq_take, k4.1]
        exact k4.take _
      obtain ⟨s3, r3⟩ := r1.put2 k1 k2 rs
      exact ⟨.inl ⟨rfl, vs, SqL.of k3⟩, a, vs, v, rfl, rfl, k3, by rw [k4.1]; exact hv, h1 _ _ s3 r3 (Rep.step s3 rv)⟩
def eExt (fo fe : EE) : EE := fun sd st => (fo sd st).bind fun o st1 => match cellOf st1 o with
  | some _ => (fe sd st1).bind fun y st2 => match cellOf st2 o, lstH st2 y with
    | some (i, xs), some ys => if xs.length + ys.length ≤ lineN then .ok .non (st2.set i (.lst (xs ++ ys))) else .stk
    | _, _ => .stk
  | none => .stk
theorem se_ext {E : L2.St → XK} {to te : TE} {fo fe : EE} (ho : SE G E to fo) (he : SE G E te fe) : SE G E (tBM G.K "list" rExtend to (tCons te tNil)) (eExt fo fe) := by
  intro w sv sd st Q rel sl h
  refine ho w sv sd st _ rel sl ((Post.bind h).imp ?_)
  rintro o _ ⟨w1, d0, st1, rfl, s1, r1, ro, h1⟩
  have h1 := h1.step anE s1
  cases q : cellOf st1 d0 with
  | none => rw [q] at h1; exact h1.elim
  | some p =>
    rw [q] at h1
    obtain ⟨i, xs⟩ := p
    obtain ⟨rfl, a, vs, rfl, k1, k2, k3, k4⟩ := cellOf_rep r1 ro q
    refine ⟨.inl ⟨rfl, vs, SqL.of k3⟩, ?_⟩
    refine he w1 sv sd st1 _ r1 (sl.step s1) ((Post.bind h1).imp ?_)
    rintro y _ ⟨w2, dy, st2, rfl, s2, r2, ry, h2⟩
    have h2 := h2.step anE s2
    cases q2 : cellOf st2 (.hnd i) with
    | none => rw [q2] at h2; exact h2.elim
    | some p2 =>
      obtain ⟨j, ys⟩ := p2
      cases q3 : lstH st2 dy with
      | none => rw [q2, q3] at h2; exact h2.elim
      | some zs =>
        rw [q2, q3] at h2
        obtain ⟨e, b, us, eb, l1, l2, l3, l4⟩ := cellOf_rep r2 (Rep.step s2 ro) q2
        cases e
        cases eb
        obtain ⟨c, ts, rfl, m1, m2⟩ := lstH_rep r2 ry q3
        have h2 : Post G (RE G) w2 (if ys.length + zs.length ≤ lineN then .ok .non (st2.set i (.lst (ys ++ zs))) else .stk) Q (E sv) := h2
        split at h2
        · rename_i hl
          obtain ⟨s3, r3⟩ := r2.put2 l1 l2 (l4.append m2)
          exact ⟨a, c, us, ts, rfl, rfl, l3, m1, by rw [l4.1, m2.1]; exact line_ok hl, h2 _ _ s3 r3 .non⟩
        · exact h2.elim
/-- xs[i] = e -/
def sPut (fe fo fi : EE) : SS := fun sd st => (fe sd st).toS sd fun y st1 => (fo sd st1).toS sd fun o st2 => (fi sd st2).toS sd fun k st3 => match cellOf st3 o, k with
  | some (h, xs), .int k => match ixN xs.length k with
    | some j => .go .nx sd (st3.set h (.lst (xs.set j y)))
    | none => .stk
  | _, _ => .stk
theorem sd_put {W : WX} {te to ti : TE} {fe fo fi : EE} (he : SE G (EW W) te fe) (ho : SE G (EW W) to fo) (hi : SE G (EW W) ti fi) : SD G W (tAsg te (gSub to ti rSetL)) (sPut fe fo fi) := by
  intro w sv sd st Dn rel sl q
  refine he w sv sd st _ rel sl ((PostS.ofE sl q).imp ?_)
  rintro y _ ⟨w1, dy, st1, rfl, s1, r1, ry, h1⟩
  refine ho w1 sv sd st1 _ r1 (sl.step s1) ((PostS.ofE (sl.step s1) (h1.step s1)).imp ?_)
  rintro o _ ⟨w2, d0, st2, rfl, s2, r2, ro, h2⟩
  refine hi w2 sv sd st2 _ r2 ((sl.step s1).step s2) ((PostS.ofE ((sl.step s1).step s2) (h2.step s2)).imp ?_)
  rintro k _ ⟨w3, dk, st3, rfl, s3, r3, rk, h0⟩
  have h3 := h0.step s3
  clear h0
  cases e : cellOf st3 d0 with
  | none => rw [e] at h3; exact h3.elim
  | some p =>
    rw [e] at h3
    obtain ⟨i, xs⟩ := p
    cases dk with
    | int k0 =>
      replace h3 : PostS G w3 (match ixN xs.length k0 with
        | some j => .go .nx sd (st3.set i (.lst (xs.set j dy)))
        | none => .stk) Dn W := h3
      cases e2 : ixN xs.length k0 with
      | none => rw [e2] at h3; exact h3.elim
      | some j =>
        rw [e2] at h3
        obtain ⟨rfl, a, vs, rfl, k1, k2, k3, k4⟩ := cellOf_rep r3 (Rep.step s3 ro) e
        rw [int_rep rk]
        obtain ⟨s4, r4⟩ := r3.put2 k1 k2 (k4.set j (Rep.step s3 (Rep.step s2 ry)))
        exact ⟨a, vs, k0, j, rfl, rfl, k3, by rw [k4.1]; exact e2, h3 _ sv s4 r4 ((((sl.step s1).step s2).step s3).step s4)⟩
    | _ => exact h3.elim
/-- from now on as it is -/
def eFrz (f : EE) : EE := fun sd st => (f sd st).bind fun d st1 => match d with
  | .hnd i => match cellAt st1 i with
    | some xs => .ok (.lst xs) (st1.set i .dead)
    | none => .stk
  | d => .ok d st1
theorem se_frz {E : L2.St → XK} {te : TE} {f : EE} (he : SE G E te f) : SE G E te (eFrz f) := by
  intro w sv sd st Q rel sl h
  refine he w sv sd st _ rel sl ((Post.bind h).imp ?_)
  rintro v _ ⟨w1, d, st1, rfl, s1, r1, rv, h1⟩
  have h1 := h1.step anE s1
  cases d with
  | hnd i =>
    have h1 : Post G (RE G) w1 (match cellAt st1 i with
      | some xs => .ok (.lst xs) (st1.set i .dead)
      | none => .stk) Q (E sv) := h1
    cases q : cellAt st1 i with
    | none => rw [q] at h1; exact h1.elim
    | some xs =>
      rw [q] at h1
      obtain ⟨a, vs, rfl, k1, k2, k3, k4⟩ := cell_rep r1 rv q
      have hs : st1[i]? = some (.lst xs) := by
        unfold cellAt at q
        cases z : st1[i]? with
        | none => rw [z] at q; cases q
        | some c =>
          rw [z] at q
          cases c with
          | lst ys => cases q; rfl
          | dead => cases q
      have s2 := step_frz (w := w1) (vs := vs) (List.mem_of_getElem? k1) k2
      exact h1 (w1.frz a vs) _ s2 (r1.frz k1 hs k3 k2) (Rep.lst' upd_same (k4.step s2))
  | _ => exact h1 w1 _ (Step.refl _) r1 rv
/-- a new list that may change -/
def eHnd (f : EA) : EE := fun sd st => (f sd st).bind fun xs st1 => .ok (.hnd st1.length) (st1 ++ [.lst xs])
theorem se_hnd {E : L2.St → XK} {te : TE} {f : EA} (hf : SF G E te f) : SE G E te (eHnd f) := by
  intro w sv sd st Q rel sl h
  refine hf w sv sd st _ rel sl ((Post.bind h).imp ?_)
  rintro v _ ⟨w1, xs, st1, rfl, s1, r1, ⟨p, vs, rfl, p0, p1, p2, p3, p4⟩, h1⟩
  have s2 : Step w (w1.addP p) := ⟨s1.im, s1.px.trans (Px.app _ _), s1.newI, fun a ha => by
    rcases List.mem_append.mp (show a ∈ w1.ph ++ [p] from ha) with z | z
    · exact s1.newP a z
    · simp at z
      rw [z]; exact .inr p0, s1.keep, s1.live⟩
  refine h1 (w1.addP p) _ s2 (r1.addP p1 p2 p3 p4) (.hnd ?_)
  show (w1.ph ++ [p])[st1.length]? = some p
  rw [← r1.len, List.getElem?_append_right (Nat.le_refl _)]
  simp
/-! ### assignments -/
def sAsg (f : EE) (fg : D → SS) : SS := fun sd st => (f sd st).toS sd fun x st1 => tgtG (fg x sd st1) fun sd st => .go .nx sd st
theorem sd_asg {W : WX} {te : TE} {f : EE} {g : TG} {fg : D → SS} (he : SE G (EW W) te f) (hg : SG G g fg) : SD G W (tAsg te g) (sAsg f fg) := by
  intro w sv sd st Dn rel sl q
  refine he w sv sd st _ rel sl ((PostS.ofE sl q).imp ?_)
  rintro x _ ⟨w1, dx, st1, rfl, s1, r1, rx, h1⟩
  refine hg w1 x dx sv sd st1 _ r1 (sl.step s1) rx ((tgt_post (h1.step s1)).nx_imp ?_)
  rintro sv2 _ ⟨w2, sd2, st2, rfl, s2, r2, sl2, h2⟩
  exact h2 w2 sv2 (Step.refl _) r2 sl2
def sPar2 (i j : Nat) (f : EA) : SS := fun sd st => (f sd st).toS sd fun ds st1 => match ds with
  | [a, b] => .go .nx ((sd.set i (some a)).set j (some b)) st1
  | _ => .stk
theorem sd_par2 {W : WX} {ta : TA} {f : EA} {i j : Nat} (ha : SA G (EW W) ta f) : SD G W (tPar i j ta) (sPar2 i j f) := by
  intro w sv sd st Dn rel sl q
  refine ha w sv sd st _ rel sl ((PostS.ofE sl q).imp ?_)
  rintro x _ ⟨w1, ds, st1, rfl, s1, r1, rs, h1⟩
  have h1 := h1.step s1
  match ds, rs, h1 with
  | [a, b], rs, h1 =>
    obtain ⟨v, u, rfl, rv, ru⟩ := two_rep rs
    exact ⟨v, u, rfl, h1 w1 _ (Step.refl _) r1 (((sl.step s1).set i rv).set j ru)⟩
  | [], rs, h1 => exact h1.elim
  | [_], rs, h1 => exact h1.elim
  | _ :: _ :: _ :: _, rs, h1 => exact h1.elim
def sPar3 (i j l : Nat) (f : EA) : SS := fun sd st => (f sd st).toS sd fun ds st1 => match ds with
  | [a, b, c] => .go .nx (((sd.set i (some a)).set j (some b)).set l (some c)) st1
  | _ => .stk
theorem sd_par3 {W : WX} {ta : TA} {f : EA} {i j l : Nat} (ha : SA G (EW W) ta f) : SD G W (tPar3 i j l ta) (sPar3 i j l f) := by
  intro w sv sd st Dn rel sl q
  refine ha w sv sd st _ rel sl ((PostS.ofE sl q).imp ?_)
  rintro x _ ⟨w1, ds, st1, rfl, s1, r1, rs, h1⟩
  have h1 := h1.step s1
  match ds, rs, h1 with
  | [a, b, c], rs, h1 =>
    obtain ⟨v, us, rfl, rv, rs2⟩ := rs.inv_cons'
    obtain ⟨u, t, rfl, ru, rt⟩ := two_rep rs2
    exact ⟨v, u, t, rfl, h1 w1 _ (Step.refl _) r1 ((((sl.step s1).set i rv).set j ru).set l rt)⟩
  | [], rs, h1 => exact h1.elim
  | [_], rs, h1 => exact h1.elim
  | [_, _], rs, h1 => exact h1.elim
  | _ :: _ :: _ :: _ :: _, rs, h1 => exact h1.elim
/-- x += e -/
def sAug (i : Nat) (g : Sto → D → D → Option D) (f : EE) : SS := fun sd st => match sd[i]? with
  | some (some d) => (f sd st).toS sd fun y st1 => match g st1 d y with
    | some z => .go .nx (sd.set i (some z)) st1
    | none => .stk
  | _ => .stk
theorem sd_aug {W : WX} {te : TE} {f : EE} {i : Nat} {r : R2} {g : Sto → D → D → Option D} (hg : OpD G r g) (he : SE G (EW W) te f) : SD G W (tAug i te r) (sAug i g f) := by
  intro w sv sd st Dn rel sl q
  unfold sAug at q
  cases hd : sd[i]? with
  | none => rw [hd] at q; exact q.elim
  | some o =>
    rw [hd] at q
    cases o with
    | none => exact q.elim
    | some d =>
      obtain ⟨v, e1, rv⟩ := sl.2 i d hd
      refine ⟨v, e1, ?_⟩
      have q : PostS G w ((f sd st).toS sd fun y st1 => match g st1 d y with
        | some z => .go .nx (sd.set i (some z)) st1
        | none => .stk) Dn W := q
      refine he w sv sd st _ rel sl ((PostS.ofE sl q).imp ?_)
      rintro y _ ⟨w1, dy, st1, rfl, s1, r1, ry, h1⟩
      have h1 := h1.step s1
      cases e : g st1 d dy with
      | none => rw [e] at h1; exact h1.elim
      | some z =>
        rw [e] at h1
        exact hg w1 st1 v y d dy z _ r1 (Rep.step s1 rv) ry e fun w2 u s2 r2 ru => h1 w2 _ s2 r2 (((sl.step s1).step s2).set i ru)
/-! ### a def that gives a new list -/
abbrev FL := Sto → List D → Res (List D)
def spF (G : Md) (n : Nat) (f : FL) : Sp := fun vs H Q E => vs.length = n ∧ ∃ w st ds, w.H = H ∧ Rel G w st ∧ Reps G w.I w.ph vs ds ∧ Post G (RF G) w (f st ds) Q E
def allNo (st : Sto) : Bool := st.all fun c => match c with
  | .lst xs => D.noHs xs
  | .dead => true
def finL (n k : Nat) (st : Sto) : Res (List D) := match cellAt st k with
  | some xs => if decide (n ≤ k) && (D.noHs xs && allNo (st.take n)) then .ok xs (st.take n) else .stk
  | none => .stk
def fnL (nl : Nat) (body : SS) : FL := fun st ds => match body (ds.map some ++ List.replicate nl none) st with
  | .go (.ret (.hnd k)) _ st' => finL st.length k st'
  | .ex c _ st' => finX st.length c st'
  | _ => .stk
theorem finL_ok {w w' : Wd} {st st' : Sto} {v : V} {k : Nat} {Q : VK} {E : XK} (rel : Rel G w st) (h : Post G (RF G) w (finL st.length k st') Q E) (s : Step w w') (r : Rel G w' st') (rv : Rep G w'.I w'.ph v (.hnd k)) : Q v w'.H := by
  unfold finL at h
  cases q : cellAt st' k with
  | none => rw [q] at h; exact h.elim
  | some xs =>
    rw [q] at h
    have h : Post G (RF G) w (if decide (st.length ≤ k) && (D.noHs xs && allNo (st'.take st.length)) then .ok xs (st'.take st.length) else .stk) Q E := h
    split at h
    · rename_i hc
      simp only [Bool.and_eq_true, decide_eq_true_eq] at hc
      obtain ⟨a, vs, rfl, k1, k2, k3, k4⟩ := cell_rep r rv q
      obtain ⟨s2, r2⟩ := back rel s r hc.2.2
      have hn : a ∉ w.ph := fun z => by
        obtain ⟨j, hj, e⟩ := List.mem_iff_getElem.mp z
        have e1 := s.px j a (by rw [List.getElem?_eq_getElem hj, e])
        obtain ⟨a1, b1⟩ := List.getElem?_eq_some_iff.mp e1
        obtain ⟨a2, b2⟩ := List.getElem?_eq_some_iff.mp k1
        have := (List.getElem_inj r.nd).mp (b1.trans b2.symm)
        have := rel.len
        omega
      refine h ⟨w'.I, w.ph, w'.H⟩ _ s2 r2 ⟨a, vs, rfl, ?_, hn, k2, k3, k4.anyPh hc.2.1⟩
      rcases s.newP a (List.mem_of_getElem? k1) with z | z
      · exact absurd z hn
      · exact z
    · exact h.elim
theorem fnL_run {W : WX} {ts : TS} {body : SS} {nl : Nat} {N : List Str} {vs : List V} {ds : List D} {w : Wd} {st : Sto} {Q : VK} {E : XK} (hb : SD G W ts body) (hW : ∀ cls d σ H, E cls d H → W cls d σ H) (hN : N.length = vs.length + nl)
    (rel : Rel G w st) (rs : Reps G w.I w.ph vs ds) (h : Post G (RF G) w (fnL nl body st ds) Q E) : ts { nx := fun _ H' => Q .non H', rt := Q } (L2.start N vs) w.H := by
  refine hb w _ _ st _ rel (entry_slots hN rs) ?_
  unfold fnL at h
  cases q : body (ds.map some ++ List.replicate nl none) st with
  | go fl sd st' =>
    rw [q] at h
    cases fl with
    | nx => exact (show False from h).elim
    | brk => exact (show False from h).elim
    | cnt => exact (show False from h).elim
    | ret d =>
      cases d with
      | hnd k => exact fun w2 v s2 r2 rv => finL_ok rel h s2 r2 rv
      | _ => exact (show False from h).elim
  | ex c sd st' =>
    rw [q] at h
    exact fun w2 sv cls dd s2 r2 _ rx => hW _ _ _ _ (finX_ok rel h s2 r2 rx)
  | stk =>
    rw [q] at h
    exact (show False from h).elim
def callRF (st : Sto) (b : Bool) : Res (List D) → Res (List D)
  | .ok xs [] => if b || D.noLs xs then .ok xs st else .stk
  | .ex c [] => if b then .ex c st else .stk
  | _ => .stk
def fCall (f : FL) (dds : List D) (fa : EA) : EA := fun sd st => (fa sd st).bind fun ds st1 =>
  if D.noHs ds then callRF st1 true (f [] (ds ++ dds)) else match snaps st1 ds with
    | some xs => callRF st1 false (f [] (xs ++ dds))
    | none => .stk
def callBF (st : Sto) (h : Nat) : Res (List D) → Res (List D)
  | .ok xs [.lst ys] => if D.noHs xs && D.noHs ys then .ok xs (st.set h (.lst ys)) else .stk
  | _ => .stk
def fCallB (f : FL) (dds : List D) (fa : EA) : EA := fun sd st => (fa sd st).bind fun ds st1 => match ds with
  | .hnd h :: rest => match st1[h]? with
    | some (.lst xs) => if D.noHs xs && D.noHs rest then callBF st1 h (f [.lst xs] (.hnd 0 :: (rest ++ dds))) else .stk
    | _ => .stk
  | _ => .stk
theorem callF_plain {w : Wd} {st : Sto} {f : FL} {vs : List V} {ds : List D} {Q : VK} {E : XK} {n : Nat} (rel : Rel G w st) (rs : Reps G w.I w.ph vs ds) (hn : D.noHs ds = true) (hl : vs.length = n)
    (h : Post G (RF G) w (callRF st true (f [] ds)) Q E) : spF G n f vs w.H Q E := by
  refine ⟨hl, ⟨w.I, [], w.H⟩, [], ds, rfl, rel0 rel, rs.anyPh hn, ?_⟩
  have nope : ∀ {p : List Addr} {r : List Addr}, p = [] → Px p r := fun e i a z => by rw [e] at z; simp at z
  cases q : f [] ds with
  | ok d st' =>
    rw [q] at h
    cases st' with
    | nil =>
      intro w' v s r rv
      obtain ⟨s2, r2⟩ := after0 rel s r
      have h : Post G (RF G) w (Res.ok d st) Q E := h
      obtain ⟨p, us, rfl, p0, p1, p2, p3, p4⟩ := rv
      exact h ⟨w'.I, w.ph, w'.H⟩ _ s2 r2 ⟨p, us, rfl, p0, rel.notIn p0, p2, p3, p4.mono (Evl.Ex.refl _) (nope (ph_nil r))⟩
    | cons _ _ => exact (show False from h).elim
  | ex c st' =>
    rw [q] at h
    cases st' with
    | nil =>
      intro w' cls dd s r rx
      obtain ⟨s2, r2⟩ := after0 rel s r
      have h : Post G (RF G) w (Res.ex c st) Q E := h
      refine h ⟨w'.I, w.ph, w'.H⟩ cls dd s2 r2 ⟨rx.1, ?_⟩
      have hx := rx.2
      cases z : c.arg with
      | none =>
        rw [z] at hx
        exact hx
      | some p =>
        rw [z] at hx
        obtain ⟨a, v, e1, e2, e3⟩ := hx
        exact ⟨a, v, e1, e2, Rep.mono (Evl.Ex.refl _) (nope (ph_nil r)) e3⟩
    | cons _ _ => exact (show False from h).elim
  | stk =>
    rw [q] at h
    exact (show False from h).elim
end
end DS
namespace DS
open PySem PySem.Spec PyProof.Rows L2

/-- where a program stands -/
structure Mo where
  P : Program
  w : World
  K : PySem.W.Frag
  mg : Str → Option Value
  base : Heap
abbrev Mo.G (M : Mo) : Md := ⟨M.K, M.mg⟩
/-- a scope, as it was written, as it is seen -/
structure Sc where
  o : Scope
  v : Scope
def relab (sc scope : Scope) : Scope := { scope with names := scope.names.map fun (n, k) => if (k == NameKind.free && sc.kind == .function && sc.names.lookup n == some .cell) then (n, .cell) else (n, k) }
abbrev Sc.sub (sc : Sc) (scope : Scope) : Sc := ⟨scope, relab sc.v scope⟩
/-- a body's surroundings: level, ways out, names, scope -/
structure CK (M : Mo) (k : Nat) (W : WX) (N : List Str) (sc : Sc) (X : Cx) : Prop where
  eP : X.prog = M.P
  ew : X.w = M.w
  eK : X.K = M.K
  em : X.mg = M.mg
  eb : X.base = M.base
  eN : X.N = N
  es : X.env.scope = sc.v
  calm : X.calm = true
  rm : Room k X.A
  nd : N.Nodup
  fn : ∀ x, L2.Loc sc.o x → X.fn x = true ∨ sc.v.names.lookup x = some .local
  pass : ∀ σ, PassesAt (L2.CX X.prog X.w) X σ (EW W σ)
structure CS (M : Mo) (k : Nat) (W : WX) (N : List Str) (sc : Sc) (X : Cx) : Prop extends CK M k W N sc X where
  hp : PassesOwn (model X.prog X.w) X.A X.env X.xe
  tk : Takes X W
def WF : WX := fun _ _ _ _ => False
theorem room_un {k : Nat} {A : Around} (h : Room k A) : A.units + 65 < cLine := by
  have := h.un
  omega
theorem room_hu {k : Nat} {A : Around} (h : Room k A) : A.units + 64 < cLine := by
  have := h.un
  omega
section
variable {M : Mo} {k : Nat} {W : WX} {N : List Str} {sc : Sc}
theorem env_eta {e : Env} (h : e.scope = sc.v) : e = { e with scope := sc.v } := by rw [← h]
def DE (M : Mo) (k : Nat) (W : WX) (N : List Str) (sc : Sc) (e : Expr) (f : EE) : Prop := ∃ te, (∀ X, CK M k W N sc X → PE X e te) ∧ SE M.G (EW W) te f
def DF (M : Mo) (k : Nat) (W : WX) (N : List Str) (sc : Sc) (e : Expr) (f : EA) : Prop := ∃ te, (∀ X, CK M k W N sc X → PE X e te) ∧ SF M.G (EW W) te f
def DA (M : Mo) (k : Nat) (W : WX) (N : List Str) (sc : Sc) (es : List Expr) (f : EA) : Prop := ∃ te, (∀ X, CK M k W N sc X → PA X es te) ∧ SA M.G (EW W) te f
def DT (M : Mo) (k : Nat) (W : WX) (N : List Str) (sc : Sc) (e : Expr) (f : ET) : Prop := ∃ te, (∀ X, CK M k W N sc X → PT X e te) ∧ ST M.G (EW W) te f
def DW (M : Mo) (k : Nat) (W : WX) (N : List Str) (sc : Sc) (e : Expr) (f : ET) : Prop := ∃ te, (∀ X, CK M k W N sc X → PW X e te) ∧ ST M.G (EW W) te f
def DO (M : Mo) (k : Nat) (W : WX) (N : List Str) (sc : Sc) (e : Option Expr) (f : EO) : Prop := ∃ te, (∀ X, CK M k W N sc X → PO X e te) ∧ SO M.G (EW W) te f
def DI (M : Mo) (k : Nat) (W : WX) (N : List Str) (sc : Sc) (tg e : Expr) (f : EI) : Prop := ∃ te, (∀ X, CK M k W N sc X → PI X tg e te) ∧ SI M.G (EW W) te f
def Keeps (g : TG) (vs : List Nat) : Prop := ∀ x σ H (Q : L2.St → Hp → Prop), g x σ H Q → g x σ H fun σ2 H2 => L2.wipe σ2 vs = L2.wipe σ vs ∧ Q σ2 H2
def DG (M : Mo) (k : Nat) (W : WX) (N : List Str) (sc : Sc) (vs : List Nat) (tg : Expr) (f : D → SS) : Prop := ∃ te, (∀ X, CK M k W N sc X → PG X tg te) ∧ SG M.G te f ∧ Keeps te vs
def D1 (M : Mo) (k : Nat) (W : WX) (N : List Str) (sc : Sc) (st : Stmt) (f : SS) : Prop := ∃ ts, (∀ X, CS M k W N sc X → PS X st ts) ∧ SD M.G W ts f
def DB (M : Mo) (k : Nat) (W : WX) (N : List Str) (sc : Sc) (sts : List Stmt) (f : SS) : Prop := ∃ ts, (∀ X, CS M k W N sc X → PSs X sts ts) ∧ SD M.G W ts f
variable {e a b c : Expr} {es : List Expr} {f fa fb fc : EE} {fs fr : EA} {t t2 : ET} {pos p px py pt : Pos} {x : Str}

/-! ### expressions -/
theorem de_var (i : Nat) (hN : N[i]? = some x) (hv : Vis sc.v x) (h1 : (x == ("__debug__" : Str)) = false := by rfl) (h2 : (x == ("__classdict__" : Str)) = false := by rfl) : DE M k W N sc (.Name x pos) (eVar i) :=
  ⟨_, fun X c => pe_var (i := i) (by rw [c.eN]; exact hN) (by rw [c.es]; exact hv) h1 h2, se_var⟩
theorem de_int {i : Int} {j : Nat} : DE M k W N sc (.Constant (.int i) j pos) (eC (.int i)) := ⟨_, fun X c => pe_int, se_c fun _ _ => .int i⟩
theorem de_bl {i : Bool} {j : Nat} : DE M k W N sc (.Constant (.bool i) j pos) (eC (.bl i)) := ⟨_, fun X c => pe_bl, se_c fun _ _ => .bl i⟩
theorem de_non {j : Nat} : DE M k W N sc (.Constant .none j pos) (eC .non) := ⟨_, fun X c => pe_non, se_c fun _ _ => .non⟩
theorem de_str {i : Str} {j : Nat} : DE M k W N sc (.Constant (.str i) j pos) (eC (.str i)) := ⟨_, fun X c => pe_str, se_c fun _ _ => .str i⟩
/-- a name of the module -/
def Glb (M : Mo) (x : Str) (d : D) : Prop := ∃ v u, M.mg x = some u ∧ L2.RelV v u ∧ ∀ I ph, Rep M.G I ph v d
theorem gl_of {X : Cx} (c : CK M k W N sc X) (h : ∀ env : Env, ({ env with scope := sc.v } : Env).kindOf x = some .globalImplicit) : Gl X x := by
  show X.env.kindOf x = _
  rw [env_eta c.es]
  exact h X.env
theorem de_glob {d : D} (h : Glb M x d) (hg : ∀ env : Env, ({ env with scope := sc.v } : Env).kindOf x = some .globalImplicit := by intro _; rfl) (h1 : (x == ("__debug__" : Str)) = false := by rfl) : DE M k W N sc (.Name x pos) (eC d) := by
  obtain ⟨v, u, e1, r, hr⟩ := h
  exact ⟨_, fun X c => pe_glob (gl_of c hg) (by rw [c.em]; exact e1) r h1, se_c hr⟩
theorem de_ty {n : String} (h : M.mg x = none) (hv : bootBuiltins x = some (.type n)) (hg : ∀ env : Env, ({ env with scope := sc.v } : Env).kindOf x = some .globalImplicit := by intro _; rfl) (hn : x ≠ ("__name__" : Str) := by decide) (h1 : (x == ("__debug__" : Str)) = false := by rfl) : DE M k W N sc (.Name x pos) (eC (.ty n)) :=
  ⟨_, fun X c => pe_bltn (v := .ty n) (gl_of c hg) (by rw [c.em]; exact h) hv rfl hn h1, se_c fun _ _ => .ty n⟩
theorem de_op {op : Operator} {r : R2} {g : Sto → D → D → Option D} (ho : ∀ X, CK M k W N sc X → OpR X (binaryOp op) r) (hg : OpD M.G r g) (ha : DE M k W N sc a fa) (hb : DE M k W N sc b fb) : DE M k W N sc (.BinOp a op b pos) (eOp g fa fb) := by
  obtain ⟨ta, pa, sa⟩ := ha
  obtain ⟨tb, pb, sb⟩ := hb
  exact ⟨_, fun X c => pe_op (ho X c) (pa X c) (pb X c), se_op hg sa sb⟩
theorem df_op {op : Operator} {r : R2} {g : Sto → D → D → Option (List D)} (ho : ∀ X, CK M k W N sc X → OpR X (binaryOp op) r) (hg : OpF M.G r g) (ha : DE M k W N sc a fa) (hb : DE M k W N sc b fb) : DF M k W N sc (.BinOp a op b pos) (fOp g fa fb) := by
  obtain ⟨ta, pa, sa⟩ := ha
  obtain ⟨tb, pb, sb⟩ := hb
  exact ⟨_, fun X c => pe_op (ho X c) (pa X c) (pb X c), sf_op hg sa sb⟩
theorem de_add (ha : DE M k W N sc a fa) (hb : DE M k W N sc b fb) : DE M k W N sc (.BinOp a .Add b pos) (eOp addD fa fb) := de_op (r := rAddD M.K) (fun X c => by rw [← c.eK]; exact op_addD) d_addD ha hb
theorem de_sub (ha : DE M k W N sc a fa) (hb : DE M k W N sc b fb) : DE M k W N sc (.BinOp a .Sub b pos) (eOp (ints2 fun i j => some (.int (i - j))) fa fb) := de_op (fun X c => op_sub) d_sub ha hb
theorem de_mul (ha : DE M k W N sc a fa) (hb : DE M k W N sc b fb) : DE M k W N sc (.BinOp a .Mult b pos) (eOp mulD fa fb) := de_op (r := rMulD M.K) (fun X c => by rw [← c.eK]; exact op_mulD) d_mulD ha hb
theorem de_mod (ha : DE M k W N sc a fa) (hb : DE M k W N sc b fb) : DE M k W N sc (.BinOp a .Mod b pos) (eOp (ints2 modI) fa fb) := de_op (fun X c => op_mod) d_mod ha hb
theorem de_fdiv (ha : DE M k W N sc a fa) (hb : DE M k W N sc b fb) : DE M k W N sc (.BinOp a .FloorDiv b pos) (eOp (ints2 divI) fa fb) := de_op (fun X c => op_fdivW) d_fdiv ha hb
theorem de_pow (ha : DE M k W N sc a fa) (hb : DE M k W N sc b fb) : DE M k W N sc (.BinOp a .Pow b pos) (eOp (ints2 powI) fa fb) := de_op (fun X c => op_pow) d_pow ha hb
theorem df_cat (ha : DE M k W N sc a fa) (hb : DE M k W N sc b fb) : DF M k W N sc (.BinOp a .Add b pos) (fOp fCat fa fb) := df_op (fun X c => op_cat) f_cat ha hb
theorem df_rep (ha : DE M k W N sc a fa) (hb : DE M k W N sc b fb) : DF M k W N sc (.BinOp a .Mult b pos) (fOp fRep fa fb) := df_op (fun X c => op_rep) f_rep ha hb
theorem de_neg (ha : DE M k W N sc a fa) : DE M k W N sc (.UnaryOp .USub a pos) (eUn negD fa) := by
  obtain ⟨ta, pa, sa⟩ := ha
  exact ⟨_, fun X c => pe_un un_neg (pa X c), se_un d_neg sa⟩
/-! comparisons: what stands for an operator -/
structure CmpOf (M : Mo) (op : CmpOp) (r : R2) (g : Sto → D → D → Option D) : Prop where
  op : ∀ X, X.K = M.K → X.A.units + 64 < cLine → OpR X (compareOp op) r
  d : OpD M.G r g
theorem cm_lt : CmpOf M .Lt (rI0 fun i j => .bl (decide (i < j))) (ints2 fun i j => some (.bl (decide (i < j)))) := ⟨fun X _ _ => op_lt, d_lt⟩
theorem cm_le : CmpOf M .LtE (rI0 fun i j => .bl (decide (i ≤ j))) (ints2 fun i j => some (.bl (decide (i ≤ j)))) := ⟨fun X _ _ => op_le, d_le⟩
theorem cm_gt : CmpOf M .Gt (rI0 fun i j => .bl (decide (j < i))) (ints2 fun i j => some (.bl (decide (j < i)))) := ⟨fun X _ _ => op_gt, d_gt⟩
theorem cm_ge : CmpOf M .GtE (rI0 fun i j => .bl (decide (j ≤ i))) (ints2 fun i j => some (.bl (decide (j ≤ i)))) := ⟨fun X _ _ => op_ge, d_ge⟩
theorem cm_eq : CmpOf M .Eq (rEqD M.K) eqD := ⟨fun X h u => by rw [← h]; exact op_eqD u, d_eq⟩
theorem cm_ne : CmpOf M .NotEq (rNeD M.K) neD := ⟨fun X h u => by rw [← h]; exact op_neD u, d_ne⟩
theorem cm_in : CmpOf M .In (rIn M.K false) (inD false) := ⟨fun X h u => by rw [← h]; exact op_in_seq, d_in⟩
theorem cm_notin : CmpOf M .NotIn (rIn M.K true) (inD true) := ⟨fun X h u => by rw [← h]; exact op_notIn_seq, d_in⟩
theorem cm_is : CmpOf M .Is rIsNo (isND false) := ⟨fun X h u => op_isN, d_isN⟩
theorem cm_isnot : CmpOf M .IsNot rNotNo (isND true) := ⟨fun X h u => op_notN, d_notN⟩
variable {op op' : CmpOp} {r r' : R2} {g g' : Sto → D → D → Option D}
theorem de_cmp (ho : CmpOf M op r g) (ha : DE M k W N sc a fa) (hb : DE M k W N sc b fb) (hm : behindInMarks op b = false := by rfl) : DE M k W N sc (.Compare a [op] [b] pos) (eOp g fa fb) := by
  obtain ⟨ta, pa, sa⟩ := ha
  obtain ⟨tb, pb, sb⟩ := hb
  exact ⟨_, fun X c => pe_cmpR (ho.op X c.eK (room_hu c.rm)) (pa X c) (pb X c) hm, se_op ho.d sa sb⟩
theorem dt_cmp (ho : CmpOf M op r g) (ha : DE M k W N sc a fa) (hb : DE M k W N sc b fb) (hm : behindInMarks op b = false := by rfl) : DT M k W N sc (.Compare a [op] [b] pos) (eTest (eOp g fa fb)) := by
  obtain ⟨ta, pa, sa⟩ := ha
  obtain ⟨tb, pb, sb⟩ := hb
  exact ⟨_, fun X c => pt_cmpR (ho.op X c.eK (room_hu c.rm)) (pa X c) (pb X c) hm, st_test (se_op ho.d sa sb)⟩
theorem de_chain (ho : CmpOf M op r g) (ho' : CmpOf M op' r' g') (ha : DE M k W N sc a fa) (hb : DE M k W N sc b fb) (hc : DE M k W N sc c fc) (hm : lastMarks [op, op'] [b, c] = false := by rfl) : DE M k W N sc (.Compare a [op, op'] [b, c] pos) (eChain g g' fa fb fc) := by
  obtain ⟨ta, pa, sa⟩ := ha
  obtain ⟨tb, pb, sb⟩ := hb
  obtain ⟨tc, pc, s3⟩ := hc
  exact ⟨_, fun X c => pe_chain (ho.op X c.eK (room_hu c.rm)) (ho'.op X c.eK (room_hu c.rm)) (pa X c) (pb X c) (pc X c) hm, se_chain ho.d ho'.d sa sb s3⟩
theorem dt_chain (ho : CmpOf M op r g) (ho' : CmpOf M op' r' g') (ha : DE M k W N sc a fa) (hb : DE M k W N sc b fb) (hc : DE M k W N sc c fc) (hm : lastMarks [op, op'] [b, c] = false := by rfl) : DT M k W N sc (.Compare a [op, op'] [b, c] pos) (eTest (eChain g g' fa fb fc)) := by
  obtain ⟨ta, pa, sa⟩ := ha
  obtain ⟨tb, pb, sb⟩ := hb
  obtain ⟨tc, pc, s3⟩ := hc
  exact ⟨_, fun X c => pt_chain (ho.op X c.eK (room_hu c.rm)) (ho'.op X c.eK (room_hu c.rm)) (pa X c) (pb X c) (pc X c) hm, st_test (se_chain ho.d ho'.d sa sb s3)⟩
/-- any expression that gives a bool, as a test -/
theorem dt_val (h : DE M k W N sc e f) (hw : ∀ (env : Env) (whole : Sem Value), PySem.isTrue e env whole = (do let v ← whole; standAt e.pos; holding [v] (truthy v)) := by intro _ _; rfl) : DT M k W N sc e (eTest f) := by
  obtain ⟨te, pe, se⟩ := h
  exact ⟨_, fun X c => pt_val (pe X c) (fun w => hw X.env w), st_B se⟩
theorem dw_and {rest : List Expr} (ha : DT M k W N sc a t) (hb : DW M k W N sc (.BoolOp .And (b :: rest) pos) t2) : DW M k W N sc (.BoolOp .And (a :: b :: rest) pos) (eAnd t t2) := by
  obtain ⟨ta, pa, sa⟩ := ha
  obtain ⟨tb, pb, sb⟩ := hb
  exact ⟨_, fun X c => pw_and (pa X c) (pb X c), st_and sa sb⟩
theorem dw_and1 (ha : DT M k W N sc a t) : DW M k W N sc (.BoolOp .And [a] pos) t := by
  obtain ⟨ta, pa, sa⟩ := ha
  exact ⟨_, fun X c => pw_and1 (pa X c), sa⟩
theorem dw_or {rest : List Expr} (ha : DT M k W N sc a t) (hb : DW M k W N sc (.BoolOp .Or (b :: rest) pos) t2) : DW M k W N sc (.BoolOp .Or (a :: b :: rest) pos) (eOr t t2) := by
  obtain ⟨ta, pa, sa⟩ := ha
  obtain ⟨tb, pb, sb⟩ := hb
  exact ⟨_, fun X c => pw_or (pa X c) (pb X c), st_or sa sb⟩
theorem dw_or1 (ha : DT M k W N sc a t) : DW M k W N sc (.BoolOp .Or [a] pos) t := by
  obtain ⟨ta, pa, sa⟩ := ha
  exact ⟨_, fun X c => pw_or1 (pa X c), sa⟩
theorem dt_w (h : DW M k W N sc e t) : DT M k W N sc e t := by
  obtain ⟨ta, pa, sa⟩ := h
  exact ⟨_, fun X c => (pa X c).pt, sa⟩
theorem dt_not (h : DT M k W N sc a t) : DT M k W N sc (.UnaryOp .Not a pos) (eNot t) := by
  obtain ⟨ta, pa, sa⟩ := h
  exact ⟨_, fun X c => pt_not (pa X c), st_not sa⟩
theorem de_and {rest : List Expr} (ha : DE M k W N sc a fa) (hb : DE M k W N sc (.BoolOp .And (b :: rest) pos) fb) : DE M k W N sc (.BoolOp .And (a :: b :: rest) pos) (eAndV fa fb) := by
  obtain ⟨ta, pa, sa⟩ := ha
  obtain ⟨tb, pb, sb⟩ := hb
  exact ⟨_, fun X c => pe_and (pa X c) (pb X c), se_andV sa sb⟩
theorem de_or {rest : List Expr} (ha : DE M k W N sc a fa) (hb : DE M k W N sc (.BoolOp .Or (b :: rest) pos) fb) : DE M k W N sc (.BoolOp .Or (a :: b :: rest) pos) (eOrV fa fb) := by
  obtain ⟨ta, pa, sa⟩ := ha
  obtain ⟨tb, pb, sb⟩ := hb
  exact ⟨_, fun X c => pe_or (pa X c) (pb X c), se_orV sa sb⟩
theorem de_one {bop : BoolOp} (ha : DE M k W N sc a fa) : DE M k W N sc (.BoolOp bop [a] pos) fa := by
  obtain ⟨ta, pa, sa⟩ := ha
  exact ⟨_, fun X c => pe_one (pa X c), sa⟩
theorem de_not (ha : DE M k W N sc a fa) : DE M k W N sc (.UnaryOp .Not a pos) (eNotV fa) := by
  obtain ⟨ta, pa, sa⟩ := ha
  exact ⟨_, fun X c => pe_not (pa X c), se_notV sa⟩
theorem de_if (hc : DT M k W N sc c t) (ha : DE M k W N sc a fa) (hb : DE M k W N sc b fb) : DE M k W N sc (.IfExp c a b pos) (eIf t fa fb) := by
  obtain ⟨tc, pc, s3⟩ := hc
  obtain ⟨ta, pa, sa⟩ := ha
  obtain ⟨tb, pb, sb⟩ := hb
  exact ⟨_, fun X c => pe_ifExp (pc X c) (pa X c) (pb X c), se_if s3 sa sb⟩
theorem da_nil : DA M k W N sc [] aNil := ⟨_, fun X c => pa_nil, sa_nil⟩
theorem da_cons (ha : DE M k W N sc e f) (hr : DA M k W N sc es fr) (hs : ∀ env : Env, starEach (e :: es) env = (false, eval e env) :: starEach es env := by intro _; rfl) : DA M k W N sc (e :: es) (aCons f fr) := by
  obtain ⟨ta, pa, sa⟩ := ha
  obtain ⟨tb, pb, sb⟩ := hr
  exact ⟨_, fun X c => pa_cons (pa X c) (pb X c) (hs X.env), sa_cons sa sb⟩
theorem de_tup {x1 : Nat} (h : DA M k W N sc es fs) : DE M k W N sc (.Tuple es x1 pos) (eTup fs) := by
  obtain ⟨ta, pa, sa⟩ := h
  exact ⟨_, fun X c => pe_tup (pa X c), se_tup sa⟩
theorem df_lst (h : DA M k W N sc es fs) : DF M k W N sc (.List es pos) (fLst fs) := by
  obtain ⟨ta, pa, sa⟩ := h
  exact ⟨_, fun X c => pe_lst (pa X c), sf_lst sa⟩
theorem de_fz (h : DF M k W N sc e fs) : DE M k W N sc e (eFz fs) := by
  obtain ⟨ta, pa, sa⟩ := h
  exact ⟨_, pa, se_fz sa⟩
theorem de_hnd (h : DF M k W N sc e fs) : DE M k W N sc e (eHnd fs) := by
  obtain ⟨ta, pa, sa⟩ := h
  exact ⟨_, pa, se_hnd sa⟩
theorem de_frz (h : DE M k W N sc e f) : DE M k W N sc e (eFrz f) := by
  obtain ⟨ta, pa, sa⟩ := h
  exact ⟨_, pa, se_frz sa⟩
theorem de_dict0 : DE M k W N sc (.Dict [] [] pos) eDict0 := ⟨_, fun X c => pe_dnewK, se_dict0⟩
/-! ### calls -/
/-- a def that stands in the module, at a level -/
def Has (M : Mo) (x : Str) (j : Nat) (ps : List Str) (dvs : List V) (sp : Sp) : Prop := ∃ fd a ds, FnOk M.P M.w M.K M.mg M.base (L2.CX M.P M.w) j a fd ps sp ∧ M.mg x = some (.ref a) ∧ PySem.W.keepIn M.K (.ref a) = true ∧ L2.Binds M.K fd ps ds ∧ Vals dvs ds
def callD (n : Nat) (ff : FF) (st : Sto) (ds : List D) : Res D := if ds.length = n then (if D.noHs ds then callR st true (ff [] ds) else match snaps st ds with
  | some xs => callR st false (ff [] xs)
  | none => .stk) else .stk
def callBD (n : Nat) (ff : FF) (st : Sto) (ds : List D) : Res D := if ds.length = n then (match ds with
  | .hnd h :: rest => match st[h]? with
    | some (.lst xs) => if D.noHs xs && D.noHs rest then callB st h (ff [.lst xs] (.hnd 0 :: rest)) else .stk
    | _ => .stk
  | _ => .stk) else .stk
def callLD (n : Nat) (ff : FL) (st : Sto) (ds : List D) : Res (List D) := if ds.length = n then (if D.noHs ds then callRF st true (ff [] ds) else .stk) else .stk
/-- f(..), with the defaults' values dds -/
def eCal (n : Nat) (ff : FF) (dds : List D) (fa : EA) : EE := fun sd st => (fa sd st).bind fun ds st1 => callD n ff st1 (ds ++ dds)
def eCalB (n : Nat) (ff : FF) (dds : List D) (fa : EA) : EE := fun sd st => (fa sd st).bind fun ds st1 => callBD n ff st1 (ds ++ dds)
def fCal (n : Nat) (ff : FL) (dds : List D) (fa : EA) : EA := fun sd st => (fa sd st).bind fun ds st1 => callLD n ff st1 (ds ++ dds)
theorem callD_ok {G : Md} {w : Wd} {st : Sto} {n : Nat} {ff : FF} {vs : List V} {ds : List D} {Q : VK} {E : XK} (rel : Rel G w st) (rs : Reps G w.I w.ph vs ds) (h : Post G (RE G) w (callD n ff st ds) Q E) : spD G n ff vs w.H Q E := by
  unfold callD at h
  split at h
  · rename_i hl
    have hl2 : vs.length = n := by rw [rs.1]; exact hl
    split at h
    · rename_i hn
      exact call_plain rel rs hn hl2 h
    · cases q : snaps st ds with
      | none => rw [q] at h; exact h.elim
      | some xs =>
        rw [q] at h
        exact call_snap rel (snaps_rep rel rs q) hl2 h
  · exact h.elim
theorem callBD_ok {G : Md} {w : Wd} {st : Sto} {n : Nat} {ff : FF} {vs : List V} {ds : List D} {Q : VK} {E : XK} (rel : Rel G w st) (rs : Reps G w.I w.ph vs ds) (h : Post G (RE G) w (callBD n ff st ds) Q E) : spD G n ff vs w.H Q E := by
  unfold callBD at h
  split at h
  · rename_i hl
    have hl2 : vs.length = n := by rw [rs.1]; exact hl
    cases ds with
    | nil => exact h.elim
    | cons d rest =>
      cases d with
      | hnd i =>
        obtain ⟨v, us, rfl, rv, rr⟩ := rs.inv_cons'
        have h : Post G (RE G) w (match st[i]? with
          | some (.lst xs) => if D.noHs xs && D.noHs rest then callB st i (ff [.lst xs] (.hnd 0 :: rest)) else .stk
          | _ => .stk) Q E := h
        cases q : st[i]? with
        | none => rw [q] at h; exact h.elim
        | some c =>
          rw [q] at h
          cases c with
          | dead => exact h.elim
          | lst xs =>
            have h : Post G (RE G) w (if D.noHs xs && D.noHs rest then callB st i (ff [.lst xs] (.hnd 0 :: rest)) else .stk) Q E := h
            split at h
            · rename_i hh
              rw [Bool.and_eq_true] at hh
              exact call_bag rel rv q hh.1 rr hh.2 hl2 h
            · exact h.elim
      | _ => exact h.elim
  · exact h.elim
theorem callLD_ok {G : Md} {w : Wd} {st : Sto} {n : Nat} {ff : FL} {vs : List V} {ds : List D} {Q : VK} {E : XK} (rel : Rel G w st) (rs : Reps G w.I w.ph vs ds) (h : Post G (RF G) w (callLD n ff st ds) Q E) : spF G n ff vs w.H Q E := by
  unfold callLD at h
  split at h
  · rename_i hl
    split at h
    · rename_i hn
      exact callF_plain rel rs hn (by rw [rs.1]; exact hl) h
    · exact h.elim
  · exact h.elim
theorem se_cal {n : Nat} {ff : FF} {dvs : List V} {dds : List D} {E : L2.St → XK} {ta : TA} (hd : ∀ I ph, Reps M.G I ph dvs dds) (ha : SA M.G E ta fs) : SE M.G E (tCallSD (spD M.G n ff) dvs E ta) (eCal n ff dds fs) := by
  intro w sv sd st Q rel sl h
  refine ha w sv sd st _ rel sl ((Post.bind h).imp ?_)
  rintro vs _ ⟨w1, ds, st1, rfl, s1, r1, rs, h1⟩
  exact callD_ok r1 (rs.append (hd _ _)) (h1.step anE s1)
theorem se_calB {n : Nat} {ff : FF} {dvs : List V} {dds : List D} {E : L2.St → XK} {ta : TA} (hd : ∀ I ph, Reps M.G I ph dvs dds) (ha : SA M.G E ta fs) : SE M.G E (tCallSD (spD M.G n ff) dvs E ta) (eCalB n ff dds fs) := by
  intro w sv sd st Q rel sl h
  refine ha w sv sd st _ rel sl ((Post.bind h).imp ?_)
  rintro vs _ ⟨w1, ds, st1, rfl, s1, r1, rs, h1⟩
  exact callBD_ok r1 (rs.append (hd _ _)) (h1.step anE s1)
theorem sf_cal {n : Nat} {ff : FL} {dvs : List V} {dds : List D} {E : L2.St → XK} {ta : TA} (hd : ∀ I ph, Reps M.G I ph dvs dds) (ha : SA M.G E ta fs) : SF M.G E (tCallSD (spF M.G n ff) dvs E ta) (fCal n ff dds fs) := by
  intro w sv sd st Q rel sl h
  refine ha w sv sd st _ rel sl ((Post.bind h).imp ?_)
  rintro vs _ ⟨w1, ds, st1, rfl, s1, r1, rs, h1⟩
  exact callLD_ok r1 (rs.append (hd _ _)) (h1.step anF s1)
theorem pe_has {X : Cx} {j : Nat} {ps : List Str} {dvs : List V} {sp : Sp} {ta : TA} (c : CK M k W N sc X) (h : Has M x j ps dvs sp) (hj : j ≤ k) (hg : Gl X x) (ha : PA X (e :: es) ta) (hs : starEach (e :: es) X.env = (false, eval e X.env) :: starEach es X.env) (hp : ((backTo pos (starEach es X.env)).any (·.1)) = false) (h1 : (x == ("__debug__" : Str)) = false) :
    PE X (.Call (.Name x p) (e :: es) [] pos) (tCallSD sp dvs (EW W) ta) := by
  obtain ⟨fd, aa, ds, F, gm, kp, B, vd⟩ := h
  obtain ⟨eP, ew, eK, em, eb, eN, eS, ecalm, rm, nd, fn, pass⟩ := c
  cases X
  subst eP ew eK em eb
  exact pe_callSD F (rm.mono hj) hg gm kp B vd pass ha h1 hs hp
theorem de_call {j n : Nat} {ps : List Str} {dvs : List V} {dds : List D} {ff : FF} (h : Has M x j ps dvs (spD M.G n ff)) (hj : j ≤ k) (hd : ∀ I ph, Reps M.G I ph dvs dds) (ha : DA M k W N sc (e :: es) fs)
    (hg : ∀ env : Env, ({ env with scope := sc.v } : Env).kindOf x = some .globalImplicit := by intro _; rfl) (hs : ∀ env : Env, starEach (e :: es) env = (false, eval e env) :: starEach es env := by intro _; rfl) (hp : ∀ env : Env, ((backTo pos (starEach es env)).any (·.1)) = false := by intro _; rfl) (h1 : (x == ("__debug__" : Str)) = false := by rfl) :
    DE M k W N sc (.Call (.Name x p) (e :: es) [] pos) (eCal n ff dds fs) := by
  obtain ⟨ta, pa, sa⟩ := ha
  exact ⟨_, fun X c => pe_has c h hj (gl_of c hg) (pa X c) (hs X.env) (hp X.env) h1, se_cal hd sa⟩
theorem de_callB {j n : Nat} {ps : List Str} {dvs : List V} {dds : List D} {ff : FF} (h : Has M x j ps dvs (spD M.G n ff)) (hj : j ≤ k) (hd : ∀ I ph, Reps M.G I ph dvs dds) (ha : DA M k W N sc (e :: es) fs)
    (hg : ∀ env : Env, ({ env with scope := sc.v } : Env).kindOf x = some .globalImplicit := by intro _; rfl) (hs : ∀ env : Env, starEach (e :: es) env = (false, eval e env) :: starEach es env := by intro _; rfl) (hp : ∀ env : Env, ((backTo pos (starEach es env)).any (·.1)) = false := by intro _; rfl) (h1 : (x == ("__debug__" : Str)) = false := by rfl) :
    DE M k W N sc (.Call (.Name x p) (e :: es) [] pos) (eCalB n ff dds fs) := by
  obtain ⟨ta, pa, sa⟩ := ha
  exact ⟨_, fun X c => pe_has c h hj (gl_of c hg) (pa X c) (hs X.env) (hp X.env) h1, se_calB hd sa⟩
theorem df_call {j n : Nat} {ps : List Str} {dvs : List V} {dds : List D} {ff : FL} (h : Has M x j ps dvs (spF M.G n ff)) (hj : j ≤ k) (hd : ∀ I ph, Reps M.G I ph dvs dds) (ha : DA M k W N sc (e :: es) fs)
    (hg : ∀ env : Env, ({ env with scope := sc.v } : Env).kindOf x = some .globalImplicit := by intro _; rfl) (hs : ∀ env : Env, starEach (e :: es) env = (false, eval e env) :: starEach es env := by intro _; rfl) (hp : ∀ env : Env, ((backTo pos (starEach es env)).any (·.1)) = false := by intro _; rfl) (h1 : (x == ("__debug__" : Str)) = false := by rfl) :
    DF M k W N sc (.Call (.Name x p) (e :: es) [] pos) (fCal n ff dds fs) := by
  obtain ⟨ta, pa, sa⟩ := ha
  exact ⟨_, fun X c => pe_has c h hj (gl_of c hg) (pa X c) (hs X.env) (hp X.env) h1, sf_cal hd sa⟩
/-! ### built-in calls -/
structure BltB (M : Mo) (id : String) (r : List V → Hp → VK → Prop) (g : Sto → List D → Option D) : Prop where
  c : ∀ X, X.K = M.K → X.calm = true → CallR X (.builtin id) r
  d : CaD M.G r g
structure BltT (M : Mo) (T : String) (r : List V → Hp → VK → Prop) (g : Sto → List D → Option D) : Prop where
  c : ∀ X, X.K = M.K → X.calm = true → CallR X (.type T) r
  d : CaD M.G r g
structure BltF (M : Mo) (T : String) (r : List V → Hp → VK → Prop) (g : Sto → List D → Option (List D)) : Prop where
  c : ∀ X, X.K = M.K → X.calm = true → CallR X (.type T) r
  d : CaF M.G r g
theorem bl_len : BltB M "len" (rLen M.K) lenD := ⟨fun X h _ => by rw [← h]; exact call_len, c_len⟩
theorem bl_abs : BltB M "abs" rAbs absD := ⟨fun X h _ => call_abs, c_abs⟩
theorem bl_max2 : BltB M "max" rMax2 max2D := ⟨fun X h c => call_max2 c, c_max2⟩
theorem bl_min2 : BltB M "min" rMin2 min2D := ⟨fun X h c => call_min2 c, c_min2⟩
theorem bl_max : BltB M "max" (rMax M.K) (onI fun ns => (maxI ns).map .int) := ⟨fun X h c => by rw [← h]; exact cr_max c, c_maxL⟩
theorem bl_min : BltB M "min" (rMin M.K) (onI fun ns => (minI ns).map .int) := ⟨fun X h c => by rw [← h]; exact cr_min c, c_minL⟩
theorem bl_sum : BltB M "sum" (rSum M.K) (onI fun ns => some (.int ns.sum)) := ⟨fun X h c => by rw [← h]; exact cr_sum c, c_sum⟩
theorem bl_all : BltB M "all" (rAll M.K) (onB fun bs => some (.bl (bs.all id))) := ⟨fun X h c => by rw [← h]; exact cr_all c, c_all⟩
theorem bl_any : BltB M "any" (rAny M.K) (onB fun bs => some (.bl (bs.any id))) := ⟨fun X h c => by rw [← h]; exact cr_any c, c_any⟩
theorem bl_isi : BltB M "isinstance" (rIsi M.K) isiD := ⟨fun X h _ => by rw [← h]; exact call_isi, c_isi⟩
theorem bl_repr : BltB M "repr" rRepr reprD := ⟨fun X h _ => cl_repr, c_repr⟩
theorem bl_int : BltT M "int" rInt1 intOf := ⟨fun X h _ => call_int1, c_int⟩
theorem bl_tuple : BltT M "tuple" (rTupOf M.K) tupleD := ⟨fun X h _ => by rw [← h]; exact call_tuple_of, c_tuple⟩
theorem bl_list : BltF M "list" (rLstOf M.K) listD := ⟨fun X h _ => by rw [← h]; exact call_list_of, c_list⟩
theorem de_blt {id : String} {r : List V → Hp → VK → Prop} {g : Sto → List D → Option D} (hb : BltB M id r g) (hm : M.mg x = none) (ha : DA M k W N sc (e :: es) fs) (hv : bootBuiltins x = some (.builtin id) := by decide +kernel)
    (hg : ∀ env : Env, ({ env with scope := sc.v } : Env).kindOf x = some .globalImplicit := by intro _; rfl) (hs : ∀ env : Env, starEach (e :: es) env = (false, eval e env) :: starEach es env := by intro _; rfl) (hp : ∀ env : Env, ((backTo pos (starEach es env)).any (·.1)) = false := by intro _; rfl) (hn : x ≠ ("__name__" : Str) := by decide) (h1 : (x == ("__debug__" : Str)) = false := by rfl) :
    DE M k W N sc (.Call (.Name x p) (e :: es) [] pos) (eCB g fs) := by
  obtain ⟨ta, pa, sa⟩ := ha
  exact ⟨_, fun X c => pe_callB (hb.c X c.eK c.calm) (gl_of c hg) (by rw [c.em]; exact hm) hv (pa X c) hn h1 (hs X.env) (hp X.env), se_cb hb.d sa⟩
theorem de_bltT {T : String} {r : List V → Hp → VK → Prop} {g : Sto → List D → Option D} (hb : BltT M T r g) (hm : M.mg x = none) (ha : DA M k W N sc (e :: es) fs) (hv : bootBuiltins x = some (.type T) := by decide +kernel)
    (hg : ∀ env : Env, ({ env with scope := sc.v } : Env).kindOf x = some .globalImplicit := by intro _; rfl) (hs : ∀ env : Env, starEach (e :: es) env = (false, eval e env) :: starEach es env := by intro _; rfl) (hp : ∀ env : Env, ((backTo pos (starEach es env)).any (·.1)) = false := by intro _; rfl) (hn : x ≠ ("__name__" : Str) := by decide) (h1 : (x == ("__debug__" : Str)) = false := by rfl) :
    DE M k W N sc (.Call (.Name x p) (e :: es) [] pos) (eCB g fs) := by
  obtain ⟨ta, pa, sa⟩ := ha
  exact ⟨_, fun X c => pe_callTy (hb.c X c.eK c.calm) (gl_of c hg) (by rw [c.em]; exact hm) hv (pa X c) hn h1 (hs X.env) (hp X.env), se_cb hb.d sa⟩
theorem df_bltT {T : String} {r : List V → Hp → VK → Prop} {g : Sto → List D → Option (List D)} (hb : BltF M T r g) (hm : M.mg x = none) (ha : DA M k W N sc (e :: es) fs) (hv : bootBuiltins x = some (.type T) := by decide +kernel)
    (hg : ∀ env : Env, ({ env with scope := sc.v } : Env).kindOf x = some .globalImplicit := by intro _; rfl) (hs : ∀ env : Env, starEach (e :: es) env = (false, eval e env) :: starEach es env := by intro _; rfl) (hp : ∀ env : Env, ((backTo pos (starEach es env)).any (·.1)) = false := by intro _; rfl) (hn : x ≠ ("__name__" : Str) := by decide) (h1 : (x == ("__debug__" : Str)) = false := by rfl) :
    DF M k W N sc (.Call (.Name x p) (e :: es) [] pos) (fCB g fs) := by
  obtain ⟨ta, pa, sa⟩ := ha
  exact ⟨_, fun X c => pe_callTy (hb.c X c.eK c.calm) (gl_of c hg) (by rw [c.em]; exact hm) hv (pa X c) hn h1 (hs X.env) (hp X.env), sf_cb hb.d sa⟩
/-! ### parts, methods -/
theorem de_ix (ha : DE M k W N sc a fa) (hb : DE M k W N sc b fb) (hs : PlainIx b := by exact fun _ _ => rfl) : DE M k W N sc (.Subscript a b pos) (eOp ixD fa fb) := by
  obtain ⟨ta, pa, sa⟩ := ha
  obtain ⟨tb, pb, sb⟩ := hb
  exact ⟨_, fun X c => pe_ix (r := rIxD M.K) (by rw [← c.eK]; exact ix_any) (pa X c) (pb X c) hs, se_op d_ix sa sb⟩
theorem do_no : DO M k W N sc none oNo := ⟨_, fun X c => po_none, so_no⟩
theorem do_at (h : DE M k W N sc e f) : DO M k W N sc (some e) (oAt f) := by
  obtain ⟨te, pe, se⟩ := h
  exact ⟨_, fun X c => po_some (pe X c), so_at se⟩
theorem de_cutT {lo hi : Option Expr} {fl fh : EO} {p2 : Pos} (h : DE M k W N sc e f) (hl : DO M k W N sc lo fl) (hh : DO M k W N sc hi fh) : DE M k W N sc (.Subscript e (.Slice lo hi none p2) pos) (eCutT f fl fh) := by
  obtain ⟨te, pe, se⟩ := h
  obtain ⟨tl, pl, sl⟩ := hl
  obtain ⟨th, ph, sh⟩ := hh
  exact ⟨_, fun X c => pe_slice (r := rSlA M.K) (by rw [← c.eK]; exact sl_tupA) (pe X c) (pl X c) (ph X c), se_cutT se sl sh⟩
theorem df_cutL {lo hi : Option Expr} {fl fh : EO} {p2 : Pos} (h : DE M k W N sc e f) (hl : DO M k W N sc lo fl) (hh : DO M k W N sc hi fh) : DF M k W N sc (.Subscript e (.Slice lo hi none p2) pos) (fCutL f fl fh) := by
  obtain ⟨te, pe, se⟩ := h
  obtain ⟨tl, pl, sl⟩ := hl
  obtain ⟨th, ph, sh⟩ := hh
  exact ⟨_, fun X c => pe_slice (r := rSlL M.K) (by rw [← c.eK]; exact sl_list) (pe X c) (pl X c) (ph X c), sf_cutL se sl sh⟩
theorem de_revT {j : Nat} {p1 p2 p3 : Pos} (h : DE M k W N sc e f) : DE M k W N sc (.Subscript e (.Slice none none (some (.UnaryOp .USub (.Constant (.int 1) j p1) p2)) p3) pos) (eRevT f) := by
  obtain ⟨te, pe, se⟩ := h
  exact ⟨_, fun X c => by have z := pe_revT (pos := pos) (k := j) (p1 := p1) (p2 := p2) (p3 := p3) (pe X c); rw [c.eK] at z; exact z, se_revT se⟩
theorem de_app {apos cpos : Pos} {o : Expr} {fo : EE} (ho : DE M k W N sc o fo) (he : DE M k W N sc e f) (hb : ∀ env : Env, attributeBase o "append" env (eval o env) = eval o env := by intro _; rfl) (hs : ∀ env : Env, starEach [e] env = (false, eval e env) :: starEach [] env := by intro _; rfl)
    (hl : (apos.endLine == cpos.line) = true := by rfl) (hk : ∀ env : Env, (((((backTo cpos (starEach [e] env)).all fun q => !q.1) && (backToKw cpos (keywordEach [] env)).all fun q => q.1.isSome) && decide (([e].length + ([] : List Keyword).length + if ([] : List Keyword).isEmpty = true then 0 else 1) < 30)) = true) := by intro _; rfl) :
    DE M k W N sc (.Call (.Attribute o "append" apos) [e] [] cpos) (eApp fo f) := by
  obtain ⟨to, po, so⟩ := ho
  obtain ⟨te, pe, se⟩ := he
  exact ⟨_, fun X c => by have z := pe_bm PySem.F.plainAttrs_list PySem.F.slot_list_append PySem.F.type_list_append mt_append (po X c) (pa_cons (pe X c) pa_nil (hs X.env)) (hb X.env) (hk X.env) hl (hs X.env) rfl; rw [c.eK] at z; exact z, se_app so se⟩
theorem de_ext {apos cpos : Pos} {o : Expr} {fo : EE} (ho : DE M k W N sc o fo) (he : DE M k W N sc e f) (hb : ∀ env : Env, attributeBase o "extend" env (eval o env) = eval o env := by intro _; rfl) (hs : ∀ env : Env, starEach [e] env = (false, eval e env) :: starEach [] env := by intro _; rfl)
    (hl : (apos.endLine == cpos.line) = true := by rfl) (hk : ∀ env : Env, (((((backTo cpos (starEach [e] env)).all fun q => !q.1) && (backToKw cpos (keywordEach [] env)).all fun q => q.1.isSome) && decide (([e].length + ([] : List Keyword).length + if ([] : List Keyword).isEmpty = true then 0 else 1) < 30)) = true) := by intro _; rfl) :
    DE M k W N sc (.Call (.Attribute o "extend" apos) [e] [] cpos) (eExt fo f) := by
  obtain ⟨to, po, so⟩ := ho
  obtain ⟨te, pe, se⟩ := he
  exact ⟨_, fun X c => by have z := pe_bm PySem.F.plainAttrs_list PySem.F.slot_list_extend PySem.F.type_list_extend mt_extend (po X c) (pa_cons (pe X c) pa_nil (hs X.env)) (hb X.env) (hk X.env) hl (hs X.env) rfl; rw [c.eK] at z; exact z, se_ext so se⟩
theorem de_pop {apos cpos : Pos} {o : Expr} {fo : EE} (ho : DE M k W N sc o fo) (hb : ∀ env : Env, attributeBase o "pop" env (eval o env) = eval o env := by intro _; rfl) (hl : (apos.endLine == cpos.line) = true := by rfl) :
    DE M k W N sc (.Call (.Attribute o "pop" apos) [] [] cpos) (ePop fo) := by
  obtain ⟨to, po, so⟩ := ho
  exact ⟨_, fun X c => by have z := pe_bm0 (cpos := cpos) (apos := apos) PySem.F.plainAttrs_list PySem.F.slot_list_pop PySem.F.type_list_pop mt_pop (po X c) (hb X.env) hl; rw [c.eK] at z; exact z, se_pop so⟩
end
end DS
namespace DS
open PySem PySem.Spec PyProof.Rows L2

section
variable {M : Mo} {k : Nat} {W : WX} {N : List Str} {sc : Sc}
variable {e a b c : Expr} {es : List Expr} {f fa fb fc : EE} {fs fr : EA} {t t2 : ET} {pos p px py pz pt : Pos} {x y z : Str}
/-! ### targets -/
theorem wipe_get (σ : L2.St) (i : Nat) : ∀ vs : List Nat, (L2.wipe σ vs)[i]? = if i ∈ vs then (σ[i]?).map (fun _ => none) else σ[i]?
  | [] => by simp [L2.wipe]
  | v :: vs => by
    show ((L2.wipe σ vs).set v none)[i]? = _
    rw [List.getElem?_set]
    by_cases h : v = i
    · subst h
      have hm : v ∈ v :: vs := by simp
      rw [if_pos rfl, L2.wipe_length, if_pos hm]
      by_cases hl : v < σ.length
      · rw [if_pos hl, List.getElem?_eq_getElem hl]; rfl
      · rw [if_neg hl, List.getElem?_eq_none (by omega)]; rfl
    · rw [if_neg h, wipe_get σ i vs]
      have h2 : ¬ i = v := fun q => h q.symm
      by_cases hm : i ∈ vs
      · rw [if_pos hm, if_pos (by simp [hm])]
      · rw [if_neg hm, if_neg (by simp [h2, hm])]
theorem wipe_set (σ : L2.St) {i : Nat} {vs : List Nat} {o : Option V} (h : i ∈ vs) : L2.wipe (σ.set i o) vs = L2.wipe σ vs := by
  apply List.ext_getElem?
  intro j
  rw [wipe_get, wipe_get]
  by_cases hj : j ∈ vs
  · rw [if_pos hj, if_pos hj, List.getElem?_set]
    by_cases e : i = j
    · subst e
      rw [if_pos rfl]
      by_cases hl : i < σ.length
      · rw [if_pos hl, List.getElem?_eq_getElem hl]; rfl
      · rw [if_neg hl, List.getElem?_eq_none (by omega)]
    · rw [if_neg e]
  · rw [if_neg hj, if_neg hj, List.getElem?_set_ne (fun z => hj (by rw [← z]; exact h))]
theorem wipe_wipe (σ : L2.St) (vs : List Nat) : L2.wipe (L2.wipe σ vs) vs = L2.wipe σ vs := by
  apply List.ext_getElem?
  intro j
  rw [wipe_get, wipe_get]
  by_cases hj : j ∈ vs
  · rw [if_pos hj, if_pos hj]
    cases σ[j]? <;> rfl
  · rw [if_neg hj, if_neg hj]
theorem Keeps.wipes {g : TG} {vs : List Nat} (h : Keeps g vs) : Wipes g vs := by
  intro x σ H Q q
  have z := h x (L2.wipe σ vs) H Q q
  rw [wipe_wipe] at z
  exact z
theorem keeps_name {i : Nat} {vs : List Nat} (h : i ∈ vs) : Keeps (gName i) vs := fun x σ H Q q => ⟨wipe_set σ h, q⟩
theorem dg_name {vs : List Nat} (i : Nat) (hN : N[i]? = some x) (hl : Loc sc.v x) (ho : Loc sc.o x) (hv : i ∈ vs := by decide) : DG M k W N sc vs (.Name x pos) (gNameD i) :=
  ⟨_, fun X c => pg_name (i := i) (by rw [c.eN]; exact c.nd) (by rw [c.eN]; exact hN) (by rw [c.es]; exact hl) (by rw [c.es]; exact c.fn x ho), sg_name, keeps_name hv⟩
def KeepsL (g : TGs) (vs : List Nat) : Prop := ∀ xs σ H (Q : L2.St → Hp → Prop), g xs σ H Q → g xs σ H fun σ2 H2 => L2.wipe σ2 vs = L2.wipe σ vs ∧ Q σ2 H2
def DGs (M : Mo) (k : Nat) (W : WX) (N : List Str) (sc : Sc) (vs : List Nat) (tgs : List Expr) (fs : List (D → SS)) : Prop := ∃ te, (∀ X, CK M k W N sc X → PGs X tgs te) ∧ SGs M.G te fs ∧ KeepsL te vs
def TG.up (g : TG) : Prop := ∀ x σ H (Q Q' : L2.St → Hp → Prop), (∀ σ H, Q σ H → Q' σ H) → g x σ H Q → g x σ H Q'
theorem dgs_nil {vs : List Nat} : DGs M k W N sc vs [] [] := ⟨_, fun X c => pgs_nil, SGs.nil, fun xs σ H Q q => ⟨q.1, rfl, q.2⟩⟩
theorem dgs_name {vs : List Nat} {gs : List (D → SS)} (i : Nat) (hN : N[i]? = some x) (hl : Loc sc.v x) (ho : Loc sc.o x) (hr : DGs M k W N sc vs es gs) (hv : i ∈ vs := by decide) (hs : ∀ env : Env, (assignEach (.Name x pos :: es) env).map (·.2) = assign (.Name x pos) env :: (assignEach es env).map (·.2) := by intro _; rfl) :
    DGs M k W N sc vs (.Name x pos :: es) (gNameD i :: gs) := by
  obtain ⟨tr, pr, sr, kr⟩ := hr
  obtain ⟨tn, pn, sn, kn⟩ := dg_name (M := M) (k := k) (W := W) (pos := pos) (vs := vs) i hN hl ho hv
  refine ⟨gCons (gName i) tr, fun X c => pgs_cons (pg_name (i := i) (by rw [c.eN]; exact c.nd) (by rw [c.eN]; exact hN) (by rw [c.es]; exact hl) (by rw [c.es]; exact c.fn x ho)) (pr X c) (hs X.env), SGs.cons sg_name sr, fun xs σ H Q q => ?_⟩
  obtain ⟨v, r, rfl, q⟩ := q
  refine ⟨v, r, rfl, ?_⟩
  have z := kr r _ H Q (show tr r (σ.set i (some v)) H Q from q)
  rw [wipe_set σ hv] at z
  exact z
/-- a tuple among targets -/
theorem dg_tup {vs : List Nat} {gs : List (D → SS)} {n kk : Nat} (h : DGs M k W N sc vs es gs) (hn : gs.length = n := by rfl) (ha : ∀ env : Env, (assignEach es env).length = n := by intro _; rfl) (hf : ∀ env : Env, (assignEach es env).findIdx? (·.1) = none := by intro _; rfl) :
    DG M k W N sc vs (.Tuple es kk pos) (gTupD gs) := by
  obtain ⟨te, pe, se, ke⟩ := h
  refine ⟨gTup M.K n te, fun X c => ?_, sg_tup se hn, fun v σ H Q q => ?_⟩
  · have z := pg_tup (pos := pos) (k := kk) c.calm (pe X c) (ha X.env) (hf X.env)
    rw [c.eK] at z
    exact z
  · obtain ⟨aa, xs, h1, h2, h3, h4⟩ := q
    exact ⟨aa, xs, h1, h2, h3, ke xs σ H Q h4⟩
/-! ### walks -/
theorem di_seq {tg : Expr} (h : DE M k W N sc e f) : DI M k W N sc tg e (iSeq f) := by
  obtain ⟨te, pe, se⟩ := h
  exact ⟨tSeqI M.K te, fun X c => by have z := pi_seqI (tg := tg) (pe X c); rw [c.eK] at z; exact z, si_seq se⟩
theorem di_rng1 {tg : Expr} (hm : M.mg "range" = none) (h : DA M k W N sc [a] fs) (hg : ∀ env : Env, ({ env with scope := sc.v } : Env).kindOf "range" = some .globalImplicit := by intro _; rfl) (hs : ∀ env : Env, starEach [a] env = [(false, eval a env)] := by intro _; rfl) :
    DI M k W N sc tg (.Call (.Name "range" p) [a] [] pos) (iRngN 1 fs) := by
  obtain ⟨ta, pa, sa⟩ := h
  exact ⟨_, fun X c => pi_range1 (gl_of c hg) (by rw [c.em]; exact hm) (pa X c) (hs X.env), si_rng1 sa⟩
theorem di_rng2 {tg : Expr} (hm : M.mg "range" = none) (h : DA M k W N sc [a, b] fs) (hg : ∀ env : Env, ({ env with scope := sc.v } : Env).kindOf "range" = some .globalImplicit := by intro _; rfl) (hs : ∀ env : Env, starEach [a, b] env = [(false, eval a env), (false, eval b env)] := by intro _; rfl) (hs2 : ∀ env : Env, starEach [b] env = [(false, eval b env)] := by intro _; rfl) :
    DI M k W N sc tg (.Call (.Name "range" p) [a, b] [] pos) (iRngN 2 fs) := by
  obtain ⟨ta, pa, sa⟩ := h
  exact ⟨_, fun X c => pi_range2 (gl_of c hg) (by rw [c.em]; exact hm) (pa X c) (hs X.env) (hs2 X.env), si_rng2 sa⟩
theorem di_rng3 {tg : Expr} (hm : M.mg "range" = none) (h : DA M k W N sc [a, b, c] fs) (hg : ∀ env : Env, ({ env with scope := sc.v } : Env).kindOf "range" = some .globalImplicit := by intro _; rfl) (hs : ∀ env : Env, starEach [a, b, c] env = (false, eval a env) :: starEach [b, c] env := by intro _; rfl) (hp : ∀ env : Env, ((backTo pos (starEach [b, c] env)).any (·.1)) = false := by intro _; rfl) :
    DI M k W N sc tg (.Call (.Name "range" p) [a, b, c] [] pos) (iRngN 3 fs) := by
  obtain ⟨ta, pa, sa⟩ := h
  exact ⟨_, fun X c => pi_range3 (gl_of c hg) (by rw [c.em]; exact hm) (pa X c) (hs X.env) (hp X.env), si_rng3 sa⟩
theorem di_enu {elts : List Expr} {kk : Nat} {tpos : Pos} (hm : M.mg "enumerate" = none) (h : DE M k W N sc e f) (hg : ∀ env : Env, ({ env with scope := sc.v } : Env).kindOf "enumerate" = some .globalImplicit := by intro _; rfl) (hs : ∀ env : Env, starEach [e] env = [(false, eval e env)] := by intro _; rfl) :
    DI M k W N sc (.Tuple elts kk tpos) (.Call (.Name "enumerate" p) [e] [] pos) (iEnu f) := by
  obtain ⟨te, pe, se⟩ := h
  refine ⟨tEnuI M.K te, fun X c => ?_, si_enu se⟩
  have h1 : PA X [e] (tCons te tNil) := pa_cons (pe X c) pa_nil (by rw [hs]; rfl)
  have z1 := pi_enum (p := p) (pos := pos) (tpos := tpos) (elts := elts) (kk := kk) (gl_of c hg) (by rw [c.em]; exact hm) h1 (hs X.env)
  have z2 := pi_enumT (p := p) (pos := pos) (tpos := tpos) (elts := elts) (kk := kk) (gl_of c hg) (by rw [c.em]; exact hm) h1 (hs X.env)
  have z := or_pi z1 z2
  rw [c.eK] at z
  exact z
theorem di_zip {elts : List Expr} {kk : Nat} {tpos : Pos} (hm : M.mg "zip" = none) (h : DA M k W N sc [a, b] fs) (hg : ∀ env : Env, ({ env with scope := sc.v } : Env).kindOf "zip" = some .globalImplicit := by intro _; rfl) (hs : ∀ env : Env, starEach [a, b] env = (false, eval a env) :: starEach [b] env := by intro _; rfl) (hp : ∀ env : Env, ((backTo pos (starEach [b] env)).any (·.1)) = false := by intro _; rfl) :
    DI M k W N sc (.Tuple elts kk tpos) (.Call (.Name "zip" p) [a, b] [] pos) (iZip2 fs) := by
  obtain ⟨ta, pa, sa⟩ := h
  refine ⟨RZ.iZipA M.K ta, fun X c => ?_, si_zip sa⟩
  have z := RZ.pi_zipA (p := p) (pos := pos) (tpos := tpos) (elts := elts) (kk := kk) (gl_of c hg) (by rw [c.em]; exact hm) (pa X c) (hs X.env) (hp X.env)
  rw [c.eK] at z
  exact z
/-! ### comprehensions -/
theorem ck_blk {X : Cx} {scope : Scope} {s : Shared} {H : Hp} {C : Addr} {cl : List (Str × Addr)} {fp : List Addr} (c : CK M k W N sc X) : CK M k WF N (sc.sub scope) (X.blk s H scope (compEnvC scope cl C X.env) fp) where
  eP := c.eP
  ew := c.ew
  eK := c.eK
  em := c.em
  eb := c.eb
  eN := c.eN
  es := by
    show relabel scope X.env = relab sc.v scope
    rw [← c.es]
    rfl
  calm := c.calm
  rm := c.rm
  nd := c.nd
  fn := fun x h => by
    rcases h with h | h
    · right
      show (relab sc.v scope).names.lookup x = _
      have z := lookup_relabel_local (env := X.env) h
      rw [← c.es]
      exact z
    · left
      show (scope.names.lookup x == some .cell) = true
      rw [h]
      rfl
  pass := fun σ pins H s e s' I h => by
    obtain ⟨_, _, _, _, _, _, _, _, _, _, _, _, z⟩ := h
    exact z.elim
def DTs (M : Mo) (k : Nat) (W : WX) (N : List Str) (sc : Sc) (es : List Expr) (f : ET) : Prop := ∃ te, (∀ X, CK M k W N sc X → PTs X es te) ∧ ST M.G (EW W) te f
theorem dts_nil : DTs M k W N sc [] eYes := ⟨_, fun X c => pts_nil, st_yes⟩
theorem dts_one (h : DT M k W N sc e t) : DTs M k W N sc [e] t := by
  obtain ⟨te, pe, se⟩ := h
  exact ⟨_, fun X c => pts_one (pe X c), se⟩
theorem df_lc {elt tg iter : Expr} {ifs : List Expr} {scope : Scope} (own : List (Str × Nat)) {fi : EI} {fg : D → SS} (hi : DI M k W N sc tg iter fi) (hb : BlkOk N sc.v scope own) (hg : DG M k WF N (sc.sub scope) (own.map (·.2)) tg fg) (ht : DTs M k WF N (sc.sub scope) ifs t) (he : DE M k WF N (sc.sub scope) elt f)
    (hs : ∀ (env : Env) (x : Value), foldedSetIterable iter env x = pure x := by intro _ _; rfl) : DF M k W N sc (.ListComp elt [⟨tg, iter, ifs, 0⟩] scope pos) (fLc fi fg t f (own.map (·.2))) := by
  obtain ⟨ti, pi, si⟩ := hi
  obtain ⟨tg, pg, sg, kg⟩ := hg
  obtain ⟨tt, pt, st⟩ := ht
  obtain ⟨te, pe, se⟩ := he
  exact ⟨_, fun X c => pe_lc (own := own) c.calm (by rw [c.eN]; exact c.nd) (pi X c) (by rw [c.eN, c.es]; exact hb) (fun s H C cl fp => pg _ (ck_blk c)) (fun s H C cl fp => pt _ (ck_blk c)) (fun s H C cl fp => pe _ (ck_blk c)) (hs X.env), sf_lc si sg kg.wipes st se⟩
/-! ### statements -/
theorem d1_asg {tg : Expr} {vs : List Nat} {fg : D → SS} (he : DE M k W N sc e f) (hg : DG M k W N sc vs tg fg) (h1 : ∀ env : Env, swapsWithSole [tg] e pos.line { env with scope := sc.v } = pure false := by intro _; rfl) (h2 : ∀ env : Env, swappedStores [tg] e { env with scope := sc.v } = pure none := by intro _; rfl)
    (h3 : ∀ env : Env, (assignEach [tg] env).map (·.2) = [assign tg env] := by intro _; rfl) : D1 M k W N sc (.Assign [tg] e pos) (sAsg f fg) := by
  obtain ⟨te, pe, se⟩ := he
  obtain ⟨tg, pg, sg, _⟩ := hg
  exact ⟨_, fun X c => ps_asg (pe X c.toCK) (pg X c.toCK) (by rw [env_eta c.es]; exact h1 X.env) (by rw [env_eta c.es]; exact h2 X.env) (h3 X.env), sd_asg se sg⟩
theorem d1_set (i : Nat) (hN : N[i]? = some x) (hl : Loc sc.v x) (ho : Loc sc.o x) (he : DE M k W N sc e f) (h1 : ∀ env : Env, swapsWithSole [.Name x px] e pos.line env = pure false := by intro _; rfl) (h2 : ∀ env : Env, swappedStores [.Name x px] e env = pure none := by intro _; rfl)
    (h3 : ∀ env : Env, (assignEach [.Name x px] env).map (·.2) = [assign (.Name x px) env] := by intro _; rfl) : D1 M k W N sc (.Assign [.Name x px] e pos) (sSet i f) := by
  obtain ⟨te, pe, se⟩ := he
  exact ⟨_, fun X c => ps_asg (pe X c.toCK) (pg_name (i := i) (by rw [c.eN]; exact c.nd) (by rw [c.eN]; exact hN) (by rw [c.es]; exact hl) (by rw [c.es]; exact c.fn x ho)) (h1 X.env) (h2 X.env) (h3 X.env), sd_set se⟩
theorem sd_of_lc {wi : TI} {g : TG} {tt : TT} {te : TE} {vs : List Nat} {i : Nat} {fl : EA} (h : SF M.G (EW W) (tLc wi g tt te vs) fl) (hnd : Bool) : SD M.G W (tAsg (tLc wi g tt te vs) (gName i)) (sSet i (if hnd then eHnd fl else eFz fl)) := by
  cases hnd with
  | true => exact sd_set (se_hnd h)
  | false => exact sd_set (se_fz h)
/-- x = [..]: kept as it is (hnd false), or a list that may change -/
theorem d1_setLc {elt tg iter : Expr} {ifs : List Expr} {scope : Scope} (hnd : Bool) (i : Nat) (hN : N[i]? = some x) (hl : sc.v.names.lookup x = some .local) (own : List (Str × Nat)) {fi : EI} {fg : D → SS} (hi : DI M k W N sc tg iter fi) (hb : BlkOk N sc.v scope own) (hg : DG M k WF N (sc.sub scope) (own.map (·.2)) tg fg) (ht : DTs M k WF N (sc.sub scope) ifs t) (he : DE M k WF N (sc.sub scope) elt f)
    (hsw : ∀ env : Env, swapsWith (.ListComp elt [⟨tg, iter, ifs, 0⟩] scope p) (some (.Name x px)) pos.line { env with scope := sc.v } = pure true) (hs : ∀ (env : Env) (x : Value), foldedSetIterable iter env x = pure x := by intro _ _; rfl) :
    D1 M k W N sc (.Assign [.Name x px] (.ListComp elt [⟨tg, iter, ifs, 0⟩] scope p) pos) (sSet i (if hnd then eHnd (fLc fi fg t f (own.map (·.2))) else eFz (fLc fi fg t f (own.map (·.2))))) := by
  obtain ⟨ti, pi, si⟩ := hi
  obtain ⟨tg, pg, sg, kg⟩ := hg
  obtain ⟨tt, pt, st⟩ := ht
  obtain ⟨te, pe, se⟩ := he
  refine ⟨_, fun X c => ps_setLc (i := i) (own := own) c.calm (by rw [c.eN]; exact c.nd) (by rw [c.eN]; exact hN) (by rw [c.es]; exact hl) (by rw [env_eta c.es]; exact hsw X.env) (pi X c.toCK) (by rw [c.eN, c.es]; exact hb) (fun s H C cl fp => pg _ (ck_blk c.toCK)) (fun s H C cl fp => pt _ (ck_blk c.toCK)) (fun s H C cl fp => pe _ (ck_blk c.toCK)) (hs X.env), sd_of_lc (sf_lc si sg kg.wipes st se) hnd⟩
theorem d1_setLcH {elt tg iter : Expr} {ifs : List Expr} {scope : Scope} (i : Nat) (hN : N[i]? = some x) (hl : sc.v.names.lookup x = some .local) (own : List (Str × Nat)) {fi : EI} {fg : D → SS} (hi : DI M k W N sc tg iter fi) (hb : BlkOk N sc.v scope own) (hg : DG M k WF N (sc.sub scope) (own.map (·.2)) tg fg) (ht : DTs M k WF N (sc.sub scope) ifs t) (he : DE M k WF N (sc.sub scope) elt f)
    (hsw : ∀ env : Env, swapsWith (.ListComp elt [⟨tg, iter, ifs, 0⟩] scope p) (some (.Name x px)) pos.line { env with scope := sc.v } = pure true := by intro _; rfl) (hs : ∀ (env : Env) (v : Value), foldedSetIterable iter env v = pure v := by intro _ _; rfl) :
    D1 M k W N sc (.Assign [.Name x px] (.ListComp elt [⟨tg, iter, ifs, 0⟩] scope p) pos) (sSet i (eHnd (fLc fi fg t f (own.map (·.2))))) := d1_setLc true i hN hl own hi hb hg ht he hsw hs
theorem d1_setLcF {elt tg iter : Expr} {ifs : List Expr} {scope : Scope} (i : Nat) (hN : N[i]? = some x) (hl : sc.v.names.lookup x = some .local) (own : List (Str × Nat)) {fi : EI} {fg : D → SS} (hi : DI M k W N sc tg iter fi) (hb : BlkOk N sc.v scope own) (hg : DG M k WF N (sc.sub scope) (own.map (·.2)) tg fg) (ht : DTs M k WF N (sc.sub scope) ifs t) (he : DE M k WF N (sc.sub scope) elt f)
    (hsw : ∀ env : Env, swapsWith (.ListComp elt [⟨tg, iter, ifs, 0⟩] scope p) (some (.Name x px)) pos.line { env with scope := sc.v } = pure true := by intro _; rfl) (hs : ∀ (env : Env) (v : Value), foldedSetIterable iter env v = pure v := by intro _ _; rfl) :
    D1 M k W N sc (.Assign [.Name x px] (.ListComp elt [⟨tg, iter, ifs, 0⟩] scope p) pos) (sSet i (eFz (fLc fi fg t f (own.map (·.2))))) := d1_setLc false i hN hl own hi hb hg ht he hsw hs
theorem d1_par2 {kt k2 : Nat} {pt2 : Pos} (i j : Nat) (hi : N[i]? = some x) (hj : N[j]? = some y) (hij : i ≠ j) (hx : sc.v.names.lookup x = some .local) (hy : sc.v.names.lookup y = some .local) (ha : DA M k W N sc [a, b] fs)
    (hw : ∀ env : Env, swappedStores [.Tuple [.Name x px, .Name y py] kt pt] (.Tuple [a, b] k2 pt2) { env with scope := sc.v } = pure (some [x, y]) := by intro _; rfl) (hs : ∀ env : Env, swapsWithSole [.Tuple [.Name x px, .Name y py] kt pt] (.Tuple [a, b] k2 pt2) pos.line env = pure false := by intro _; rfl) :
    D1 M k W N sc (.Assign [.Tuple [.Name x px, .Name y py] kt pt] (.Tuple [a, b] k2 pt2) pos) (sPar2 i j fs) := by
  obtain ⟨ta, pa, sa⟩ := ha
  exact ⟨_, fun X c => ps_par c.calm (by rw [c.eN]; exact c.nd) (by rw [c.eN]; exact hi) (by rw [c.eN]; exact hj) hij (by rw [c.es]; exact hx) (by rw [c.es]; exact hy) (pa X c.toCK) (by rw [env_eta c.es]; exact hw X.env) (hs X.env), sd_par2 sa⟩
theorem d1_par3 {kt k2 : Nat} {pt2 : Pos} (i j l : Nat) (hi : N[i]? = some x) (hj : N[j]? = some y) (hl : N[l]? = some z) (hij : i ≠ j) (hil : i ≠ l) (hjl : j ≠ l) (hx : sc.v.names.lookup x = some .local) (hy : sc.v.names.lookup y = some .local) (hz : sc.v.names.lookup z = some .local) (ha : DA M k W N sc [a, b, c] fs)
    (hw : ∀ env : Env, swappedStores [.Tuple [.Name x px, .Name y py, .Name z pz] kt pt] (.Tuple [a, b, c] k2 pt2) { env with scope := sc.v } = pure (some [x, y, z]) := by intro _; rfl) (hs : ∀ env : Env, swapsWithSole [.Tuple [.Name x px, .Name y py, .Name z pz] kt pt] (.Tuple [a, b, c] k2 pt2) pos.line env = pure false := by intro _; rfl) :
    D1 M k W N sc (.Assign [.Tuple [.Name x px, .Name y py, .Name z pz] kt pt] (.Tuple [a, b, c] k2 pt2) pos) (sPar3 i j l fs) := by
  obtain ⟨ta, pa, sa⟩ := ha
  exact ⟨_, fun X c => ps_par3 c.calm (by rw [c.eN]; exact c.nd) (by rw [c.eN]; exact hi) (by rw [c.eN]; exact hj) (by rw [c.eN]; exact hl) hij hil hjl (by rw [c.es]; exact hx) (by rw [c.es]; exact hy) (by rw [c.es]; exact hz) (pa X c.toCK) (by rw [env_eta c.es]; exact hw X.env) (hs X.env), sd_par3 sa⟩
/-- o[i] = e -/
theorem d1_put {o i : Expr} {fo fi : EE} (he : DE M k W N sc e f) (ho : DE M k W N sc o fo) (hi : DE M k W N sc i fi) (h1 : ∀ env : Env, swapsWithSole [.Subscript o i p] e pos.line env = pure false := by intro _; rfl) (h2 : ∀ env : Env, swappedStores [.Subscript o i p] e env = pure none := by intro _; rfl)
    (h3 : ∀ env : Env, (assignEach [.Subscript o i p] env).map (·.2) = [assign (.Subscript o i p) env] := by intro _; rfl)
    (h4 : ∀ (env : Env) (v : Value), assign (.Subscript o i p) env v = (do let ov ← holding [v] (eval o env); let iv ← holding [v, ov] (eval i env); standAt p; holding [v, ov, iv] (setItem ov iv v); release [v, ov, iv] []) := by intro _ _; rfl) :
    D1 M k W N sc (.Assign [.Subscript o i p] e pos) (sPut f fo fi) := by
  obtain ⟨te, pe, se⟩ := he
  obtain ⟨to, po, so⟩ := ho
  obtain ⟨ti, pi, si⟩ := hi
  exact ⟨_, fun X c => ps_asg (pe X c.toCK) (pg_sub (po X c.toCK) (pi X c.toCK) set_list (h4 X.env)) (h1 X.env) (h2 X.env) (h3 X.env), sd_put se so si⟩
theorem d1_ret (h : DE M k W N sc e f) : D1 M k W N sc (.Return (some e) pos) (sRet f) := by
  obtain ⟨te, pe, se⟩ := h
  exact ⟨_, fun X c => ps_ret (pe X c.toCK), sd_ret se⟩
theorem d1_retN : D1 M k W N sc (.Return none pos) sRetN := ⟨_, fun X c => ps_retN, sd_retN⟩
theorem d1_expr (h : DE M k W N sc e f) (hs : ∀ env : Env, swapsWith e none pos.line env = pure false := by intro _; rfl) : D1 M k W N sc (.Expr e pos) (sDrop f) := by
  obtain ⟨te, pe, se⟩ := h
  exact ⟨_, fun X c => ps_expr (pe X c.toCK) (hs X.env), sd_drop se⟩
theorem d1_doc {j : Nat} {s : Str} : D1 M k W N sc (.Expr (.Constant (.str s) j p) pos) sNext := ⟨_, fun X c => ps_doc, sd_next⟩
theorem d1_pass : D1 M k W N sc (.Pass pos) sNext := ⟨_, fun X c => ps_pass, sd_next⟩
theorem d1_break : D1 M k W N sc (.Break pos) sBrk := ⟨_, fun X c => ps_break, sd_brk⟩
theorem d1_cont : D1 M k W N sc (.Continue pos) sCnt := ⟨_, fun X c => ps_continue, sd_cnt⟩
theorem d1_if {sa sb : List Stmt} {ga gb : SS} (hc : DT M k W N sc e t) (ha : DB M k W N sc sa ga) (hb : DB M k W N sc sb gb) : D1 M k W N sc (.If e sa sb pos) (sIf t ga gb) := by
  obtain ⟨tc, pc, s1⟩ := hc
  obtain ⟨ta, pa, s2⟩ := ha
  obtain ⟨tb, pb, s3⟩ := hb
  exact ⟨_, fun X c => ps_if (pc X c.toCK) (pa X c) (pb X c), sd_if s1 s2 s3⟩
theorem d1_while {sa : List Stmt} {ga : SS} (n : Nat) (hc : DT M k W N sc e t) (ha : DB M k W N sc sa ga) : D1 M k W N sc (.While e sa [] pos) (sLoop t ga n) := by
  obtain ⟨tc, pc, s1⟩ := hc
  obtain ⟨ta, pa, s2⟩ := ha
  exact ⟨_, fun X c => ps_while c.hp (pc X c.toCK) (pa X c), sd_while s1 s2⟩
theorem d1_for {tg iter : Expr} {vs : List Nat} {sa : List Stmt} {fi : EI} {fg : D → SS} {ga : SS} (hi : DI M k W N sc tg iter fi) (hg : DG M k W N sc vs tg fg) (ha : DB M k W N sc sa ga) (hs : ∀ (env : Env) (x : Value), foldedSetIterable iter env x = pure x := by intro _ _; rfl) : D1 M k W N sc (.For tg iter sa [] pos) (sFor fi fg ga) := by
  obtain ⟨ti, pi, s1⟩ := hi
  obtain ⟨tg, pg, s2, _⟩ := hg
  obtain ⟨ta, pa, s3⟩ := ha
  exact ⟨_, fun X c => ps_for c.hp c.calm (pi X c.toCK) (pg X c.toCK) (pa X c) (hs X.env), sd_for s1 s2 s3⟩
def sStk : SS := fun _ _ => .stk
/-- what is never reached -/
theorem d1_never {st : Stmt} : D1 M k W N sc st sStk := ⟨tNever, fun X c => ps_never, fun w sv sd st Dn rel sl h => h.elim⟩
theorem d1_aug {op : Operator} {r : R2} {g : Sto → D → D → Option D} (i : Nat) (hN : N[i]? = some x) (hl : Loc sc.v x) (ho : Loc sc.o x) (hop : ∀ X, CK M k W N sc X → PIp X op r) (hg : OpD M.G r g) (he : DE M k W N sc e f) : D1 M k W N sc (.AugAssign (.Name x p) op e pos) (sAug i g f) := by
  obtain ⟨te, pe, se⟩ := he
  exact ⟨_, fun X c => ps_aug (i := i) (by rw [c.eN]; exact c.nd) (by rw [c.eN]; exact hN) (by rw [c.es]; exact hl) (pe X c.toCK) (hop X c.toCK) (by rw [c.es]; exact c.fn x ho), sd_aug hg se⟩
theorem db_nil : DB M k W N sc [] sNext := ⟨_, fun X c => pss_nil, sd_next⟩
theorem db_one {st : Stmt} {g : SS} (h : D1 M k W N sc st g) : DB M k W N sc [st] g := by
  obtain ⟨ta, pa, sa⟩ := h
  exact ⟨_, fun X c => pss_one (pa X c), sa⟩
theorem db_cons {st : Stmt} {rest : List Stmt} {g g2 : SS} (h : D1 M k W N sc st g) (hr : DB M k W N sc rest g2) : DB M k W N sc (st :: rest) (sSeq g g2) := by
  obtain ⟨ta, pa, sa⟩ := h
  obtain ⟨tb, pb, sb⟩ := hr
  exact ⟨_, fun X c => pss_cons (pa X c) (pb X c), sd_seq sa sb⟩
/-! ### defs -/
theorem cs_def {P : Program} {w : World} {K : PySem.W.Frag} {mg : Str → Option Value} {base : Heap} {N : List Str} {qual : Str} {sc : Scope} {f : Addr} {cd : Value} {A : Around} {outer : List Env} {s : Shared} {H : Hp} {E : XK} {k : Nat} (hnd : N.Nodup) (hr : Room k (A.deeper (envOfC qual sc s.heap.objs.size f cd))) :
    CS ⟨P, w, K, mg, base⟩ k (fun cls d _ H => E cls d H) N ⟨sc, sc⟩ (cxOf (L2.CX P w) P w K mg base N qual sc f cd A outer s H E) where
  eP := rfl
  ew := rfl
  eK := rfl
  em := rfl
  eb := rfl
  eN := rfl
  es := rfl
  calm := rfl
  rm := hr
  nd := hnd
  fn := fun _ _ => .inl rfl
  pass := fun σ => passAt (takes_of rfl rfl rfl rfl) σ
  hp := passes_of rfl
  tk := takes_of rfl rfl rfl rfl
theorem fn_ok {qual : Str} {params : Arguments} {body : List Stmt} {dvs : List V} {kws : List (Str × V)} {fa : Addr} {fd : FuncData} {ps : List Str} {nl : Nat} {g : SS} {S0 : Scope} (F : FunD M.K x qual params body S0 dvs kws fa fd) (S : FnScope N ps S0) (hN : N.length = ps.length + nl) (hb : ∀ W, DB M k W N ⟨S0, S0⟩ body g) :
    FnOk M.P M.w M.K M.mg M.base (L2.CX M.P M.w) (k + 1) fa fd ps (spD M.G ps.length (fnD nl g)) := by
  refine F.ok S (fun vs H Q E h => h.1) fun cdv A outer s H vs Q E hr h => ?_
  obtain ⟨t, pt, st⟩ := hb (fun cls d _ H => E cls d H)
  refine ⟨t, pt _ (cs_def S.nd hr), ?_⟩
  obtain ⟨hl, w, sto, ds, rfl, rel, rs, q⟩ := h
  exact fnD_run (nl := nl) st (fun _ _ _ _ z => z) (by rw [hN, hl]) rel rs q
theorem fn_okL {qual : Str} {params : Arguments} {body : List Stmt} {dvs : List V} {kws : List (Str × V)} {fa : Addr} {fd : FuncData} {ps : List Str} {nl : Nat} {g : SS} {S0 : Scope} (F : FunD M.K x qual params body S0 dvs kws fa fd) (S : FnScope N ps S0) (hN : N.length = ps.length + nl) (hb : ∀ W, DB M k W N ⟨S0, S0⟩ body g) :
    FnOk M.P M.w M.K M.mg M.base (L2.CX M.P M.w) (k + 1) fa fd ps (spF M.G ps.length (fnL nl g)) := by
  refine F.ok S (fun vs H Q E h => h.1) fun cdv A outer s H vs Q E hr h => ?_
  obtain ⟨t, pt, st⟩ := hb (fun cls d _ H => E cls d H)
  refine ⟨t, pt _ (cs_def S.nd hr), ?_⟩
  obtain ⟨hl, w, sto, ds, rfl, rel, rs, q⟩ := h
  exact fnL_run (nl := nl) st (fun _ _ _ _ z => z) (by rw [hN, hl]) rel rs q
/-! ### f(a, .., k = b) -/
def HasK (M : Mo) (x : Str) (j : Nat) (ps : List Str) (n : Nat) (ks : List Str) (sp : Sp) : Prop := ∃ fd a, FnOk M.P M.w M.K M.mg M.base (L2.CX M.P M.w) j a fd ps sp ∧ M.mg x = some (.ref a) ∧ PySem.W.keepIn M.K (.ref a) = true ∧ KBn M.K fd ps n ks (fun us ws => us ++ ws) (fun vs zs => vs ++ zs)
def DK (M : Mo) (k : Nat) (W : WX) (N : List Str) (sc : Sc) (kws : List Keyword) (f : EA) : Prop := ∃ te, (∀ X, CK M k W N sc X → PK X kws te) ∧ SA M.G (EW W) te f
theorem dk_nil : DK M k W N sc [] aNil := ⟨_, fun X c => pk_nil, sa_nil⟩
theorem dk_cons {nm : Option Str} {kws : List Keyword} (ha : DE M k W N sc e f) (hr : DK M k W N sc kws fr) : DK M k W N sc (⟨nm, e, p⟩ :: kws) (aCons f fr) := by
  obtain ⟨ta, pa, sa⟩ := ha
  obtain ⟨tb, pb, sb⟩ := hr
  exact ⟨_, fun X c => pk_cons (pa X c) (pb X c), sa_cons sa sb⟩
def eCalK (np nk n : Nat) (ff : FF) (fa fb : EA) : EE := fun sd st => (fa sd st).bind fun ds st1 => (fb sd st1).bind fun es st2 => if ds.length = np ∧ es.length = nk then (callD n ff st2 (ds ++ es)).noex else .stk
theorem de_callK {j n np : Nat} {ps : List Str} {ks : List Str} {ff : FF} {kws : List Keyword} {fk : EA} (h : HasK M x j ps np ks (spD M.G n ff)) (hj : j ≤ k) (ha : DA M k W N sc (e :: es) fs) (hk : DK M k W N sc kws fk)
    (hg : ∀ env : Env, ({ env with scope := sc.v } : Env).kindOf x = some .globalImplicit := by intro _; rfl) (hall : ∀ env : Env, (backToKw pos (keywordEach kws env)).all (·.1.isSome) = true := by intro _; rfl) (hks : ∀ env : Env, (backToKw pos (keywordEach kws env)).filterMap (·.1) = ks := by intro _; rfl)
    (hs : ∀ env : Env, starEach (e :: es) env = (false, eval e env) :: starEach es env := by intro _; rfl) (hp : ∀ env : Env, ((backTo pos (starEach (e :: es) env)).any (·.1) || (backToKw pos (keywordEach kws env)).any (·.1.isNone)) = false := by intro _; rfl) (h1 : (x == ("__debug__" : Str)) = false := by rfl) :
    DE M k W N sc (.Call (.Name x p) (e :: es) kws pos) (eCalK np ks.length n ff fs fk) := by
  obtain ⟨ta, pa, sa⟩ := ha
  obtain ⟨tk, pk, sk⟩ := hk
  obtain ⟨fd, aa, Fo, gm, kp, B⟩ := h
  refine ⟨tCallN np ks.length (spD M.G n ff) (fun vs zs => vs ++ zs) (fun _ _ _ => False) ta tk, fun X c => ?_, ?_⟩
  · have pa := pa X c
    have pk := pk X c
    have gl := gl_of c hg
    obtain ⟨eP, ew, eK, em, eb, eN, eS, ecalm, rm, nd, fn, pass⟩ := c
    cases X
    subst eP ew eK em eb
    refine pe_callN Fo (rm.mono hj) gl gm kp B (fun pins σ H s e s' I h => ?_) pa pk (hall _) (hks _) h1 (hs _) (hp _)
    obtain ⟨_, _, _, _, _, _, _, _, _, _, _, _, z⟩ := h
    exact z.elim
  · intro w sv sd st Q rel sl h
    refine sa w sv sd st _ rel sl ((Post.bind h).imp ?_)
    rintro vs _ ⟨w1, ds, st1, rfl, s1, r1, rs, h1⟩
    refine sk w1 sv sd st1 _ r1 (sl.step s1) ((Post.bind (h1.step anE s1)).imp ?_)
    rintro zs _ ⟨w2, es, st2, rfl, s2, r2, rz, h2⟩
    have h2 := h2.step anE s2
    split at h2
    · rename_i hl
      exact ⟨by rw [rs.1]; exact hl.1, by rw [rz.1]; exact hl.2, callD_ok r2 ((rs.step s2).append rz) (noex_post h2)⟩
    · exact h2.elim
end
end DS
namespace DS
open PySem PySem.Spec PyProof.Rows L2

/-! ### a law's end -/
theorem fn_calm {P : Program} {w : World} {K : PySem.W.Frag} {mg : Str → Option Value} {base : Heap} {k : Nat} {f : Addr} {fd : FuncData} {ps : List Str} {sp : Sp} (F : FnOk P w K mg base (L2.CX P w) k f fd ps sp) :
    FnOk P w K mg base CX0 k f fd ps (fun vs H Q _ => sp vs H Q fun _ _ _ => False) := by
  refine ⟨fun vs H Q E h => F.len vs H Q _ h, fun A outer s H args us vs Q E hr e b v h => codeAny_mono (F.run A outer s H args us vs Q _ hr e b v h) fun r s' hq => ?_⟩
  cases r with
  | ok fl =>
    cases fl with
    | ret u => exact hq
    | next => exact hq
    | brk => exact hq
    | cont => exact hq
  | error e =>
    obtain ⟨_, _, _, _, _, _, _, _, _, _, _, _, z⟩ := (show L2.CX P w outer H s (fun _ _ _ => False) e s' from hq)
    exact z.elim
theorem reps_ints {G : Md} {I : Hp} {ph : List Addr} : ∀ ns : List Int, Reps G I ph (ns.map V.int) (ns.map D.int)
  | [] => Reps.nil
  | n :: ns => Reps.cons (.int n) (reps_ints ns)
theorem law_sp {K : PySem.W.Frag} {mg : Str → Option Value} {ff : FF} {H : Hp} {a : Addr} {ns : List Int} (h : ff [] [.scr (ns.map D.int)] = .ok (.bl true) []) (hS : SqL K H a (ns.map V.int)) :
    spD ⟨K, mg⟩ 1 ff [.ref a] H (fun v _ => v = .bl true) fun _ _ _ => False := by
  refine ⟨rfl, ⟨H, [], H⟩, [], [.scr (ns.map D.int)], rfl, ⟨Evl.Ex.refl _, rfl, List.nodup_nil, fun i a c hi _ => by simp at hi⟩, Reps.cons (.scr hS (reps_ints (G := ⟨K, mg⟩) (I := H) (ph := []) ns).1 (reps_ints (G := ⟨K, mg⟩) (I := H) (ph := []) ns).2) Reps.nil, ?_⟩
  rw [h]
  exact fun w' v _ _ rv => bl_rep rv
/-! ### facts of the head, and one Bool more -/
def hookE (n : Nat) (fa : List He.Fa) (fn : List He.DefD) (ex : PySem.W.Frag → Bool) : PySem.W.Hook where
  α := He.AlD × Bool
  obs := fun s => (He.obsDG n fa fn s.heap.get?, ex (He.frG s.heap.get? (He.asD s.heap.get? n)))
  val := fun _ => (He.valD fn, true)
  says := fun _ h => ∃ K : PySem.W.Frag, K.In h ∧ He.SaysD fa fn K ∧ ex K = true
  of := fun _ s e => ⟨He.frG s.heap.get? (He.asD s.heap.get? n), He.frG_in, congrArg (fun z : He.AlD × Bool => z.1) e, congrArg (fun z : He.AlD × Bool => z.2) e⟩
  keeps := fun _ _ _ ⟨K, hK, c⟩ k => ⟨K, PySem.W.Frag.In.keeps hK k, c⟩
def obE (n : Nat) (fa : List He.Fa) (fn : List He.DefD) (ex : PySem.W.Frag → Bool) (g : Addr → Option Obj) : He.AlD × Bool := (He.obsDG n fa fn g, ex (He.frG g (He.asD g n)))
theorem obE_eq {n : Nat} {fa : List He.Fa} {fn : List He.DefD} {ex : PySem.W.Frag → Bool} {g : Addr → Option Obj} {s : Shared} (h : ∀ a, g a = s.heap.get? a) : obE n fa fn ex g = (hookE n fa fn ex).obs s := by
  have e : g = s.heap.get? := funext h
  rw [e]
  rfl
theorem glb_int {M : Mo} {x : Str} {i : Int} (h : ∃ t, M.mg x = some (.int i t)) : Glb M x (.int i) := by
  obtain ⟨t, h⟩ := h
  exact ⟨.int i, _, h, ⟨t, rfl⟩, fun _ _ => .int i⟩
theorem glb_tup {M : Mo} {x : Str} (ns : List Int) (h : M.mg x = some (.ref (He.ga M.K x))) (ht : He.tupB M.K x (ns.map He.Dv.int) = true) : Glb M x (.tup (ns.map D.int)) := by
  refine ⟨.ref (He.ga M.K x), _, h, rfl, fun I ph => ?_⟩
  have z := He.tupB_ok ht I
  have e : (ns.map He.Dv.int).map (He.Dv.v M.K) = ns.map V.int := by
    rw [List.map_map]
    rfl
  rw [e] at z
  exact Rep.tup' z (reps_ints ns)
end DS
namespace Pm
theorem getD_lt {xs : List Int} {i : Nat} {d : Int} (h : i < xs.length) : xs.getD i d = xs[i] := by simp [List.getD_eq_getElem?_getD, h]
theorem getD_ge {xs : List Int} {i : Nat} {d : Int} (h : xs.length ≤ i) : xs.getD i d = d := by simp [List.getD_eq_getElem?_getD, h]
/-! plain laws of lists of numbers, read as polynomials modulo p -/
def trim : List Int → List Int
  | [] => []
  | x :: xs => match trim xs with
    | [] => if x = 0 then [] else [x]
    | y :: ys => x :: y :: ys
/-- a list as an operator on sequences: the sum of c i * f (n + i) -/
def T : List Int → (Nat → Int) → Nat → Int
  | [], _, _ => 0
  | c :: cs, f, n => c * f n + T cs f (n + 1)
def nrm (p : Int) (xs : List Int) : List Int := trim (xs.map (· % p))
structure Nrm (p : Int) (xs : List Int) : Prop where
  lo : ∀ x ∈ xs, 0 ≤ x ∧ x < p
  tr : trim xs = xs
/-- alike modulo p -/
def Md (p a b : Int) : Prop := a % p = b % p
theorem Md.refl {p a : Int} : Md p a a := rfl
theorem Md.symm {p a b : Int} (h : Md p a b) : Md p b a := Eq.symm h
theorem Md.trans {p a b c : Int} (h : Md p a b) (k : Md p b c) : Md p a c := Eq.trans h k
theorem Md.add {p a b c d : Int} (h : Md p a b) (k : Md p c d) : Md p (a + c) (b + d) := by
  unfold Md at *; rw [Int.add_emod, h, k, ← Int.add_emod]
theorem Md.sub {p a b c d : Int} (h : Md p a b) (k : Md p c d) : Md p (a - c) (b - d) := by
  unfold Md at *; rw [Int.sub_emod, h, k, ← Int.sub_emod]
theorem Md.mul {p a b c d : Int} (h : Md p a b) (k : Md p c d) : Md p (a * c) (b * d) := by
  unfold Md at *; rw [Int.mul_emod, h, k, ← Int.mul_emod]
theorem Md.mod {p a : Int} : Md p (a % p) a := Int.emod_emod_of_dvd a (Int.dvd_refl p)
theorem Md.of_eq {p a b : Int} (h : a = b) : Md p a b := by rw [h]; rfl
theorem Md.eq {p a b : Int} (h : Md p a b) (ha : 0 ≤ a ∧ a < p) (hb : 0 ≤ b ∧ b < p) : a = b := by
  unfold Md at h; rwa [Int.emod_eq_of_lt ha.1 ha.2, Int.emod_eq_of_lt hb.1 hb.2] at h

/-! ### trim -/
theorem trim_cons (x : Int) (xs : List Int) : trim (x :: xs) = if trim xs = [] then (if x = 0 then [] else [x]) else x :: trim xs := by
  show (match trim xs with
    | [] => if x = 0 then [] else [x]
    | y :: ys => x :: y :: ys) = _
  cases trim xs <;> simp
theorem trim_zero (xs : List Int) : trim (xs ++ [0]) = trim xs := by
  induction xs with
  | nil => rfl
  | cons x xs ih => rw [List.cons_append, trim_cons, trim_cons, ih]
theorem trim_nz (xs : List Int) {y : Int} (h : y ≠ 0) : trim (xs ++ [y]) = xs ++ [y] := by
  induction xs with
  | nil => show trim [y] = _; rw [trim_cons]; simp [trim, h]
  | cons x xs ih => rw [List.cons_append, trim_cons, ih]; simp
theorem trim_idem (xs : List Int) : trim (trim xs) = trim xs := by
  induction xs with
  | nil => rfl
  | cons x xs ih =>
    rw [trim_cons]
    by_cases h : trim xs = []
    · rw [if_pos h]
      by_cases hx : x = 0
      · rw [if_pos hx]; rfl
      · rw [if_neg hx, trim_cons]; simp [trim, hx]
    · rw [if_neg h, trim_cons, ih, if_neg h]
theorem trim_len (xs : List Int) : (trim xs).length ≤ xs.length := by
  induction xs with
  | nil => exact Nat.le_refl _
  | cons x xs ih =>
    rw [trim_cons]
    split
    · split <;> simp
    · simpa using ih
theorem trim_mem {xs : List Int} {y : Int} (h : y ∈ trim xs) : y ∈ xs := by
  induction xs with
  | nil => exact h
  | cons x xs ih =>
    rw [trim_cons] at h
    split at h
    · split at h
      · cases h
      · simp at h; simp [h]
    · rcases List.mem_cons.mp h with h | h
      · simp [h]
      · exact List.mem_cons_of_mem _ (ih h)
theorem trim_getD (xs : List Int) (i : Nat) : (trim xs).getD i 0 = xs.getD i 0 := by
  induction xs generalizing i with
  | nil => rfl
  | cons x xs ih =>
    rw [trim_cons]
    by_cases h : trim xs = []
    · rw [if_pos h]
      have z : ∀ j, xs.getD j 0 = 0 := fun j => by rw [← ih, h]; rfl
      by_cases hx : x = 0
      · rw [if_pos hx]
        cases i with
        | zero => simp [hx]
        | succ j => simpa using (z j).symm
      · rw [if_neg hx]
        cases i with
        | zero => rfl
        | succ j => simpa using (z j).symm
    · rw [if_neg h]
      cases i with
      | zero => rfl
      | succ j => simpa using ih j
/-- trimmed: nothing, or the last one is not 0 -/
theorem trim_last {xs : List Int} (h : trim xs = xs) : xs = [] ∨ xs.getD (xs.length - 1) 0 ≠ 0 := by
  rcases List.eq_nil_or_concat xs with e | ⟨ys, y, e⟩
  · exact .inl e
  · right
    rw [List.concat_eq_append] at e
    subst e
    have hy : y ≠ 0 := fun z => by
      rw [z, trim_zero] at h
      have := trim_len ys
      rw [h] at this
      simp at this
      omega
    simpa using hy
theorem trim_of_last {xs : List Int} (h : xs = [] ∨ xs.getD (xs.length - 1) 0 ≠ 0) : trim xs = xs := by
  rcases List.eq_nil_or_concat xs with e | ⟨ys, y, e⟩
  · rw [e]; rfl
  · rw [List.concat_eq_append] at e
    subst e
    rcases h with h | h
    · simp at h
    · exact trim_nz ys (by simpa using h)
theorem trim_short {xs : List Int} {k : Nat} (h : ∀ i, k ≤ i → xs.getD i 0 = 0) : (trim xs).length ≤ k := by
  rcases trim_last (trim_idem xs) with e | e
  · rw [e]; exact Nat.zero_le _
  · rw [trim_getD] at e
    by_cases hk : k ≤ (trim xs).length - 1
    · exact absurd (h _ hk) e
    · omega
theorem trim_eq_of {xs ys : List Int} (hx : trim xs = xs) (hy : trim ys = ys) (h : ∀ i, xs.getD i 0 = ys.getD i 0) : xs = ys := by
  have lx : xs.length ≤ ys.length := by
    rw [← hx]
    refine trim_short fun i hi => ?_
    rw [h, getD_ge hi]
  have ly : ys.length ≤ xs.length := by
    rw [← hy]
    refine trim_short fun i hi => ?_
    rw [← h, getD_ge hi]
  apply List.ext_getElem (by omega)
  intro i h1 h2
  have := h i
  rwa [getD_lt h1, getD_lt h2] at this

/-! ### T -/
theorem T_getD (xs : List Int) (k n : Nat) : T xs (fun m => if m = k + n then 1 else 0) n = xs.getD k 0 := by
  induction xs generalizing k n with
  | nil => rfl
  | cons x xs ih =>
    show x * (if n = k + n then 1 else 0) + T xs _ (n + 1) = _
    cases k with
    | zero =>
      rw [if_pos (by omega)]
      have z : ∀ (ys : List Int) (j : Nat), 0 < j → T ys (fun m => if m = 0 + n then 1 else 0) (n + j) = 0 := by
        intro ys
        induction ys with
        | nil => intros; rfl
        | cons y ys ih2 =>
          intro j hj
          show y * (if n + j = 0 + n then 1 else 0) + T ys _ (n + j + 1) = 0
          rw [if_neg (by omega), show n + j + 1 = n + (j + 1) from rfl, ih2 (j + 1) (by omega)]
          simp
      rw [z xs 1 (by omega)]
      simp
    | succ k =>
      rw [if_neg (by omega)]
      have e := ih k (n + 1)
      have e2 : (fun m => if m = k + (n + 1) then (1 : Int) else 0) = fun m => if m = k + 1 + n then 1 else 0 := by
        funext m
        by_cases h : m = k + 1 + n
        · rw [if_pos h, if_pos (by omega)]
        · rw [if_neg h, if_neg (by omega)]
      rw [e2] at e
      rw [e]
      simp
theorem T_trim (xs : List Int) (f : Nat → Int) (n : Nat) : T (trim xs) f n = T xs f n := by
  induction xs generalizing n with
  | nil => rfl
  | cons x xs ih =>
    rw [trim_cons]
    show _ = x * f n + T xs f (n + 1)
    rw [← ih]
    by_cases h : trim xs = []
    · rw [if_pos h, h]
      by_cases hx : x = 0
      · rw [if_pos hx, hx]; simp [T]
      · rw [if_neg hx]; simp [T]
    · rw [if_neg h]; rfl
theorem T_mod {p : Int} (xs : List Int) (f : Nat → Int) (n : Nat) : Md p (T (xs.map (· % p)) f n) (T xs f n) := by
  induction xs generalizing n with
  | nil => rfl
  | cons x xs ih => exact Md.add (Md.mul Md.mod rfl) (ih _)
theorem T_nrm {p : Int} (xs : List Int) (f : Nat → Int) (n : Nat) : Md p (T (nrm p xs) f n) (T xs f n) := by
  unfold nrm
  rw [T_trim]
  exact T_mod xs f n
theorem nrm_ok {p : Int} (hp : 0 < p) (xs : List Int) : Nrm p (nrm p xs) := by
  refine ⟨fun x hx => ?_, trim_idem _⟩
  have := trim_mem hx
  obtain ⟨y, _, rfl⟩ := List.mem_map.mp this
  exact ⟨Int.emod_nonneg _ (by omega), Int.emod_lt_of_pos _ hp⟩
theorem map_mod_id {p : Int} {xs : List Int} (h : ∀ x ∈ xs, 0 ≤ x ∧ x < p) : xs.map (· % p) = xs := by
  induction xs with
  | nil => rfl
  | cons x xs ih =>
    rw [List.map_cons, ih fun y hy => h y (List.mem_cons_of_mem _ hy), Int.emod_eq_of_lt (h x (by simp)).1 (h x (by simp)).2]
theorem nrm_id {p : Int} {xs : List Int} (h : Nrm p xs) : nrm p xs = xs := by
  unfold nrm
  rw [map_mod_id h.lo, h.tr]
def TE (p : Int) (a b : List Int) : Prop := ∀ f n, Md p (T a f n) (T b f n)
theorem getD_lo {p : Int} {xs : List Int} (hp : 0 < p) (h : ∀ x ∈ xs, 0 ≤ x ∧ x < p) (i : Nat) : 0 ≤ xs.getD i 0 ∧ xs.getD i 0 < p := by
  by_cases hi : i < xs.length
  · rw [getD_lt hi]; exact h _ (List.getElem_mem hi)
  · rw [getD_ge (by omega)]; exact ⟨Int.le_refl _, hp⟩
theorem TE.uniq {p : Int} (hp : 0 < p) {a b : List Int} (ha : Nrm p a) (hb : Nrm p b) (h : TE p a b) : a = b := by
  refine trim_eq_of ha.tr hb.tr fun i => ?_
  have z := h (fun m => if m = i + 0 then 1 else 0) 0
  rw [T_getD, T_getD] at z
  exact z.eq (getD_lo hp ha.lo i) (getD_lo hp hb.lo i)
theorem T_add (xs : List Int) (f g : Nat → Int) (n : Nat) : T xs (fun m => f m + g m) n = T xs f n + T xs g n := by
  induction xs generalizing n with
  | nil => rfl
  | cons x xs ih =>
    show x * (f n + g n) + T xs _ (n + 1) = x * f n + T xs f (n + 1) + (x * g n + T xs g (n + 1))
    rw [ih, Int.mul_add]; omega
theorem T_smul (xs : List Int) (c : Int) (f : Nat → Int) (n : Nat) : T xs (fun m => c * f m) n = c * T xs f n := by
  induction xs generalizing n with
  | nil => simp [T]
  | cons x xs ih =>
    show x * (c * f n) + T xs _ (n + 1) = c * (x * f n + T xs f (n + 1))
    rw [ih, Int.mul_add, Int.mul_left_comm]
theorem T_shift (xs : List Int) (f : Nat → Int) (k n : Nat) : T xs (fun m => f (m + k)) n = T xs f (n + k) := by
  induction xs generalizing n with
  | nil => rfl
  | cons x xs ih =>
    show x * f (n + k) + T xs _ (n + 1) = x * f (n + k) + T xs f (n + k + 1)
    rw [ih, show n + 1 + k = n + k + 1 by omega]
theorem T_zero (xs : List Int) (n : Nat) : T xs (fun _ => 0) n = 0 := by
  induction xs generalizing n with
  | nil => rfl
  | cons x xs ih => show x * 0 + T xs _ (n + 1) = 0; rw [ih]; simp
theorem T_congr {p : Int} (xs : List Int) {f g : Nat → Int} (h : ∀ m, Md p (f m) (g m)) (n : Nat) : Md p (T xs f n) (T xs g n) := by
  induction xs generalizing n with
  | nil => rfl
  | cons x xs ih => exact Md.add (Md.mul rfl (h n)) (ih _)
theorem T_comm (a b : List Int) (f : Nat → Int) (n : Nat) : T a (T b f) n = T b (T a f) n := by
  induction a generalizing n with
  | nil => exact (T_zero b n).symm
  | cons x xs ih =>
    show x * T b f n + T xs (T b f) (n + 1) = T b (fun m => x * f m + T xs f (m + 1)) n
    rw [T_add, T_smul, ih, T_shift b (T xs f) 1 n]
theorem T_set (xs : List Int) (f : Nat → Int) (v : Int) {i : Nat} (h : i < xs.length) (n : Nat) : T (xs.set i v) f n = T xs f n + (v - xs.getD i 0) * f (n + i) := by
  induction xs generalizing i n with
  | nil => simp at h
  | cons x xs ih =>
    cases i with
    | zero =>
      show v * f n + T xs f (n + 1) = x * f n + T xs f (n + 1) + (v - x) * f n
      rw [Int.sub_mul]; omega
    | succ i =>
      show x * f n + T (xs.set i v) f (n + 1) = x * f n + T xs f (n + 1) + _
      rw [ih (by simpa using h)]
      simp only [List.getD_cons_succ]
      rw [show n + 1 + i = n + (i + 1) by omega]; omega
theorem T_zeros (k : Nat) (f : Nat → Int) (n : Nat) : T (List.replicate k 0) f n = 0 := by
  induction k generalizing n with
  | zero => rfl
  | succ k ih => rw [List.replicate_succ]; show 0 * f n + T _ f (n + 1) = 0; rw [ih]; simp
theorem T_map_mul (c : Int) (xs : List Int) (f : Nat → Int) (n : Nat) : T (xs.map (c * ·)) f n = c * T xs f n := by
  induction xs generalizing n with
  | nil => simp [T]
  | cons x xs ih =>
    show c * x * f n + T (xs.map (c * ·)) f (n + 1) = c * (x * f n + T xs f (n + 1))
    rw [ih, Int.mul_add, Int.mul_assoc]
/-- what a table of a + t b is -/
def lin (a b : List Int) (t : Int) (k : Nat) : List Int := (List.range k).map fun i => a.getD i 0 + t * b.getD i 0
theorem T_range' (g : Nat → Int) (f : Nat → Int) (a b : List Int) (t : Int) (k s n : Nat) : T ((List.range' s k).map fun i => a.getD i 0 + t * b.getD i 0) f n = T ((List.range' s k).map fun i => a.getD i 0) f n + t * T ((List.range' s k).map fun i => b.getD i 0) f n := by
  induction k generalizing s n with
  | zero => simp [T]
  | succ k ih =>
    rw [List.range'_succ]
    simp only [List.map_cons]
    show (a.getD s 0 + t * b.getD s 0) * f n + T _ f (n + 1) = a.getD s 0 * f n + T _ f (n + 1) + t * (b.getD s 0 * f n + T _ f (n + 1))
    rw [ih, Int.add_mul, Int.mul_add, Int.mul_assoc]; omega
theorem T_tab (a : List Int) (f : Nat → Int) : ∀ (k s n : Nat), a.length ≤ s + k → T ((List.range' s k).map fun i => a.getD i 0) f n = T (a.drop s) f n
  | 0, s, n, h => by rw [List.drop_eq_nil_of_le (by omega)]; rfl
  | k + 1, s, n, h => by
    rw [List.range'_succ]
    show a.getD s 0 * f n + T ((List.range' (s + 1) k).map fun i => a.getD i 0) f (n + 1) = _
    rw [T_tab a f k (s + 1) (n + 1) (by omega)]
    by_cases hs : s < a.length
    · rw [List.drop_eq_getElem_cons hs, getD_lt hs]; rfl
    · rw [List.drop_eq_nil_of_le (by omega), List.drop_eq_nil_of_le (by omega), getD_ge (by omega)]; simp [T]
theorem T_lin (a b : List Int) (t : Int) {k : Nat} (ha : a.length ≤ k) (hb : b.length ≤ k) (f : Nat → Int) (n : Nat) : T (lin a b t k) f n = T a f n + t * T b f n := by
  unfold lin
  rw [List.range_eq_range', T_range' f f, T_tab a f k 0 n (by omega), T_tab b f k 0 n (by omega)]
  rfl
end Pm
namespace Pm
/-! ### products -/
def addRow : List Int → Nat → Int → List Int → List Int
  | arr, _, _, [] => arr
  | arr, k, c, y :: ys => addRow (arr.set k (arr.getD k 0 + c * y)) (k + 1) c ys
theorem addRow_len (arr : List Int) (k : Nat) (c : Int) (b : List Int) : (addRow arr k c b).length = arr.length := by
  induction b generalizing arr k with
  | nil => rfl
  | cons y ys ih => show (addRow _ (k + 1) c ys).length = _; rw [ih, List.length_set]
theorem T_addRow (arr : List Int) (k : Nat) (c : Int) (b : List Int) (h : k + b.length ≤ arr.length) (f : Nat → Int) (n : Nat) : T (addRow arr k c b) f n = T arr f n + c * T b f (n + k) := by
  induction b generalizing arr k with
  | nil => show T arr f n = T arr f n + c * 0; rw [Int.mul_zero]; omega
  | cons y ys ih =>
    have hl : k + (ys.length + 1) ≤ arr.length := h
    show T (addRow _ (k + 1) c ys) f n = T arr f n + c * (y * f (n + k) + T ys f (n + k + 1))
    rw [ih _ _ (by rw [List.length_set]; omega), T_set _ _ _ (by omega), show n + (k + 1) = n + k + 1 by omega, Int.mul_add, ← Int.mul_assoc, show arr.getD k 0 + c * y - arr.getD k 0 = c * y by omega]
    omega
def mulRows : List Int → Nat → List Int → List Int → List Int
  | arr, _, [], _ => arr
  | arr, k, x :: xs, b => mulRows (if x = 0 then arr else addRow arr k x b) (k + 1) xs b
theorem mulRows_len (arr : List Int) (k : Nat) (a b : List Int) : (mulRows arr k a b).length = arr.length := by
  induction a generalizing arr k with
  | nil => rfl
  | cons x xs ih =>
    show (mulRows _ (k + 1) xs b).length = _
    rw [ih]
    split
    · rfl
    · exact addRow_len ..
theorem T_mulRows (arr : List Int) (k : Nat) (a b : List Int) (h : k + a.length + b.length ≤ arr.length + 1) (f : Nat → Int) (n : Nat) : T (mulRows arr k a b) f n = T arr f n + T a (T b f) (n + k) := by
  induction a generalizing arr k with
  | nil => show T arr f n = T arr f n + 0; omega
  | cons x xs ih =>
    have hl : k + (xs.length + 1) + b.length ≤ arr.length + 1 := h
    show T (mulRows _ (k + 1) xs b) f n = T arr f n + (x * T b f (n + k) + T xs (T b f) (n + k + 1))
    by_cases hx : x = 0
    · rw [if_pos hx, ih _ _ (by omega), hx, Int.zero_mul, show n + (k + 1) = n + k + 1 by omega]; omega
    · rw [if_neg hx, ih _ _ (by rw [addRow_len]; omega), T_addRow _ _ _ _ (by omega), show n + (k + 1) = n + k + 1 by omega]; omega
def timesM (p : Int) (a b : List Int) : List Int := if a = [] ∨ b = [] then [] else nrm p (mulRows (List.replicate (a.length + b.length - 1) 0) 0 a b)
def prodM (p : Int) (a b : List Int) : List Int := nrm p (mulRows (List.replicate (a.length + b.length) 0) 0 a b)
theorem nrm_nil {p : Int} : Nrm p [] := ⟨by simp, rfl⟩
theorem timesM_ok {p : Int} (hp : 0 < p) (a b : List Int) : Nrm p (timesM p a b) := by
  unfold timesM
  split
  · exact nrm_nil
  · exact nrm_ok hp _
theorem T_timesM {p : Int} (a b : List Int) (f : Nat → Int) (n : Nat) : Md p (T (timesM p a b) f n) (T a (T b f) n) := by
  unfold timesM
  split
  · rename_i h
    rcases h with h | h
    · rw [h]; rfl
    · rw [h]
      show Md p 0 (T a (fun _ => 0) n)
      rw [T_zero]; rfl
  · rename_i h
    have ha : 0 < a.length := List.length_pos_iff.mpr fun z => h (.inl z)
    refine (T_nrm _ f n).trans (Md.of_eq ?_)
    rw [T_mulRows _ _ _ _ (by rw [List.length_replicate]; omega), T_zeros]
    show 0 + T a (T b f) (n + 0) = _
    rw [Nat.add_zero]; omega
theorem prodM_ok {p : Int} (hp : 0 < p) (a b : List Int) : Nrm p (prodM p a b) := nrm_ok hp _
theorem T_prodM {p : Int} (a b : List Int) (f : Nat → Int) (n : Nat) : Md p (T (prodM p a b) f n) (T a (T b f) n) := by
  unfold prodM
  refine (T_nrm _ f n).trans (Md.of_eq ?_)
  rw [T_mulRows _ _ _ _ (by rw [List.length_replicate]; omega), T_zeros]
  show 0 + T a (T b f) (n + 0) = _
  rw [Nat.add_zero]; omega
theorem times_prod {p : Int} (hp : 0 < p) (a b : List Int) : timesM p a b = prodM p a b :=
  TE.uniq hp (timesM_ok hp a b) (prodM_ok hp a b) fun f n => (T_timesM a b f n).trans (T_prodM a b f n).symm
theorem timesM_len {p : Int} (a b : List Int) : (timesM p a b).length ≤ a.length + b.length - 1 := by
  unfold timesM
  split
  · exact Nat.zero_le _
  · unfold nrm
    refine Nat.le_trans (trim_len _) ?_
    rw [List.length_map, mulRows_len, List.length_replicate]
    exact Nat.le_refl _
def plusM (p : Int) (a b : List Int) (t : Int) : List Int := nrm p (lin a b t (max a.length b.length))
theorem plusM_ok {p : Int} (hp : 0 < p) (a b : List Int) (t : Int) : Nrm p (plusM p a b t) := nrm_ok hp _
theorem T_plusM {p : Int} (a b : List Int) (t : Int) (f : Nat → Int) (n : Nat) : Md p (T (plusM p a b t) f n) (T a f n + t * T b f n) := by
  refine (T_nrm _ f n).trans (Md.of_eq ?_)
  rw [T_lin a b t (by omega) (by omega)]
theorem plusM_len {p : Int} (a b : List Int) (t : Int) : (plusM p a b t).length ≤ max a.length b.length := by
  unfold plusM nrm
  refine Nat.le_trans (trim_len _) ?_
  simp [lin]
def scaM (p : Int) (a : List Int) (c : Int) : List Int := nrm p (a.map (c * ·))
theorem scaM_ok {p : Int} (hp : 0 < p) (a : List Int) (c : Int) : Nrm p (scaM p a c) := nrm_ok hp _
theorem T_scaM {p : Int} (a : List Int) (c : Int) (f : Nat → Int) (n : Nat) : Md p (T (scaM p a c) f n) (c * T a f n) := by
  refine (T_nrm _ f n).trans (Md.of_eq ?_)
  rw [T_map_mul]
theorem scaM_len {p : Int} (a : List Int) (c : Int) : (scaM p a c).length ≤ a.length := by
  unfold scaM nrm
  refine Nat.le_trans (trim_len _) ?_
  simp
/-! ### division -/
def subRow (p : Int) : List Int → Nat → Int → List Int → List Int
  | arr, _, _, [] => arr
  | arr, k, c, y :: ys => subRow p (arr.set k ((arr.getD k 0 - c * y) % p)) (k + 1) c ys
theorem subRow_len (p : Int) (arr : List Int) (k : Nat) (c : Int) (b : List Int) : (subRow p arr k c b).length = arr.length := by
  induction b generalizing arr k with
  | nil => rfl
  | cons y ys ih => show (subRow p _ (k + 1) c ys).length = _; rw [ih, List.length_set]
theorem T_subRow {p : Int} (arr : List Int) (k : Nat) (c : Int) (b : List Int) (h : k + b.length ≤ arr.length) (f : Nat → Int) (n : Nat) : Md p (T (subRow p arr k c b) f n) (T arr f n - c * T b f (n + k)) := by
  induction b generalizing arr k with
  | nil => show Md p (T arr f n) (T arr f n - c * 0); rw [Int.mul_zero, Int.sub_zero]; rfl
  | cons y ys ih =>
    have hl : k + (ys.length + 1) ≤ arr.length := h
    show Md p (T (subRow p _ (k + 1) c ys) f n) (T arr f n - c * (y * f (n + k) + T ys f (n + k + 1)))
    refine (ih _ _ (by rw [List.length_set]; omega)).trans ?_
    rw [T_set _ _ _ (by omega), show n + (k + 1) = n + k + 1 by omega]
    have h1 : Md p ((arr.getD k 0 - c * y) % p - arr.getD k 0) (-(c * y)) := by
      have := Md.sub (p := p) (Md.mod (p := p) (a := arr.getD k 0 - c * y)) (Md.refl (a := arr.getD k 0))
      rwa [show arr.getD k 0 - c * y - arr.getD k 0 = -(c * y) by omega] at this
    have h2 := Md.sub (Md.add (Md.refl (p := p) (a := T arr f n)) (Md.mul h1 (Md.refl (a := f (n + k))))) (Md.refl (a := c * T ys f (n + k + 1)))
    refine h2.trans (Md.of_eq ?_)
    rw [Int.mul_add, ← Int.mul_assoc, Int.neg_mul]
    omega
theorem subRow_getD (p : Int) (arr : List Int) (k : Nat) (c : Int) (b : List Int) (h : k + b.length ≤ arr.length) (j : Nat) : (subRow p arr k c b).getD j 0 = if k ≤ j ∧ j < k + b.length then (arr.getD j 0 - c * b.getD (j - k) 0) % p else arr.getD j 0 := by
  induction b generalizing arr k with
  | nil =>
    rw [if_neg (by simp)]
    rfl
  | cons y ys ih =>
    have hl : k + (ys.length + 1) ≤ arr.length := h
    show (subRow p (arr.set k ((arr.getD k 0 - c * y) % p)) (k + 1) c ys).getD j 0 = _
    rw [ih _ _ (by rw [List.length_set]; omega)]
    have hlen : (y :: ys).length = ys.length + 1 := rfl
    by_cases hj : j = k
    · subst hj
      rw [if_neg (by omega), if_pos (by rw [hlen]; omega)]
      simp [List.getD_eq_getElem?_getD, List.getElem?_set_self (show j < arr.length by omega)]
    · have e : (arr.set k ((arr.getD k 0 - c * y) % p)).getD j 0 = arr.getD j 0 := by
        simp [List.getD_eq_getElem?_getD, List.getElem?_set_ne (fun z => hj z.symm)]
      rw [e]
      by_cases h1 : k + 1 ≤ j ∧ j < k + 1 + ys.length
      · rw [if_pos h1, if_pos (by rw [hlen]; omega), show j - k = (j - (k + 1)) + 1 by omega, List.getD_cons_succ]
      · rw [if_neg h1, if_neg (by rw [hlen]; omega)]
def divRows (p : Int) (b : List Int) (inv : Int) : Nat → List Int → List Int → List Int × List Int
  | 0, found, left => (found, left)
  | n + 1, found, left =>
    divRows p b inv n (found.set n (left.getD (n + b.length - 1) 0 * inv % p)) (if left.getD (n + b.length - 1) 0 * inv % p = 0 then left else subRow p left n (left.getD (n + b.length - 1) 0 * inv % p) b)
/-- the least number that undoes x -/
def invM (p x : Int) : Int := (((List.range p.toNat).map fun i : Nat => (i : Int)).filter fun e => decide (0 < e ∧ e * x % p = 1)).headD 0
def lastM (b : List Int) : Int := b.getD (b.length - 1) 0
def divM (p : Int) (a b : List Int) : List Int × List Int :=
  let r := divRows p b (invM p (lastM b)) (a.length + 1 - b.length) (List.replicate (a.length + 1 - b.length) 0) a
  (nrm p r.1, nrm p r.2)
theorem divRows_ok {p : Int} (b : List Int) (inv : Int) (hb : b ≠ []) (hi : Md p (inv * lastM b) 1) : ∀ (n : Nat) (found left : List Int), n ≤ found.length → n + b.length ≤ left.length + 1 → (∀ j, j < n → found.getD j 0 = 0) → (∀ j, n + b.length - 1 ≤ j → Md p (left.getD j 0) 0) →
    (∀ f m, Md p (T (divRows p b inv n found left).1 (T b f) m + T (divRows p b inv n found left).2 f m) (T found (T b f) m + T left f m)) ∧ ∀ j, b.length - 1 ≤ j → Md p ((divRows p b inv n found left).2.getD j 0) 0
  | 0, found, left, _, _, _, h => ⟨fun f m => rfl, fun j hj => h j (by omega)⟩
  | n + 1, found, left, hf, hl, h0, hz => by
    have hb1 : 0 < b.length := List.length_pos_iff.mpr hb
    have key : ∀ c : Int, c = left.getD (n + b.length - 1) 0 * inv % p → (∀ f m, Md p (T (divRows p b inv n (found.set n c) (if c = 0 then left else subRow p left n c b)).1 (T b f) m + T (divRows p b inv n (found.set n c) (if c = 0 then left else subRow p left n c b)).2 f m) (T found (T b f) m + T left f m)) ∧ ∀ j, b.length - 1 ≤ j → Md p ((divRows p b inv n (found.set n c) (if c = 0 then left else subRow p left n c b)).2.getD j 0) 0 := by
      intro c hc
      have hc2 : Md p c (left.getD (n + b.length - 1) 0 * inv) := by rw [hc]; exact Md.mod
      have hlen : (if c = 0 then left else subRow p left n c b).length = left.length := by
        split
        · rfl
        · exact subRow_len ..
      have hT : ∀ f m, Md p (T (if c = 0 then left else subRow p left n c b) f m) (T left f m - c * T b f (m + n)) := by
        intro f m
        split
        · rename_i h
          rw [h, Int.zero_mul, Int.sub_zero]
          rfl
        · exact T_subRow _ _ _ _ (by omega) f m
      have hlast : Md p (c * lastM b) (left.getD (n + b.length - 1) 0) := by
        have z := Md.mul hc2 (Md.refl (a := lastM b))
        rw [Int.mul_assoc] at z
        have z2 := Md.mul (Md.refl (p := p) (a := left.getD (n + b.length - 1) 0)) hi
        rw [Int.mul_one] at z2
        exact z.trans z2
      obtain ⟨r1, r2⟩ := divRows_ok b inv hb hi n (found.set n c) (if c = 0 then left else subRow p left n c b) (by rw [List.length_set]; omega) (by rw [hlen]; omega) (fun j hj => by
          have e : (found.set n c).getD j 0 = found.getD j 0 := by simp [List.getD_eq_getElem?_getD, List.getElem?_set_ne (show n ≠ j by omega)]
          rw [e]; exact h0 j (by omega)) (fun j hj => by
          by_cases hj2 : n + 1 + b.length - 1 ≤ j
          · have z := hz j hj2
            split
            · exact z
            · rw [subRow_getD _ _ _ _ _ (by omega), if_neg (by omega)]
              exact z
          · have ej : j = n + b.length - 1 := by omega
            split
            · rename_i h
              rw [h, Int.zero_mul] at hlast
              rw [ej]
              exact hlast.symm
            · rw [subRow_getD _ _ _ _ _ (by omega), if_pos (by omega), ej, show n + b.length - 1 - n = b.length - 1 by omega]
              refine Md.mod.trans ?_
              have z := Md.sub (Md.refl (p := p) (a := left.getD (n + b.length - 1) 0)) hlast
              rw [Int.sub_self] at z
              exact z)
      refine ⟨fun f m => (r1 f m).trans ?_, r2⟩
      rw [T_set _ _ _ (by omega), h0 n (by omega), Int.sub_zero]
      refine (Md.add Md.refl (hT f m)).trans (Md.of_eq ?_)
      omega
    exact key _ rfl
section
variable {p : Int} {a b : List Int} (hb : b ≠ []) (hi : Md p (invM p (lastM b) * lastM b) 1)
theorem divM_nrm {p : Int} (hp : 0 < p) (a b : List Int) : Nrm p (divM p a b).1 ∧ Nrm p (divM p a b).2 := ⟨nrm_ok hp _, nrm_ok hp _⟩
include hb hi
theorem divM_T (f : Nat → Int) (m : Nat) : Md p (T a f m) (T (divM p a b).1 (T b f) m + T (divM p a b).2 f m) := by
  have hb1 : 0 < b.length := List.length_pos_iff.mpr hb
  by_cases hab : b.length ≤ a.length + 1
  · obtain ⟨r1, _⟩ := divRows_ok b (invM p (lastM b)) hb hi (a.length + 1 - b.length) (List.replicate (a.length + 1 - b.length) 0) a (by rw [List.length_replicate]; omega) (by omega) (fun j hj => by simp [List.getD_eq_getElem?_getD, List.getElem?_replicate, hj]) (fun j hj => by rw [getD_ge (by omega)]; rfl)
    have z := r1 f m
    rw [T_zeros, Int.zero_add] at z
    exact z.symm.trans (Md.add (T_nrm _ _ _) (T_nrm _ _ _)).symm
  · have e : a.length + 1 - b.length = 0 := by omega
    unfold divM
    rw [e]
    show Md p (T a f m) (T (nrm p []) (T b f) m + T (nrm p a) f m)
    have z := T_nrm (p := p) a f m
    show Md p (T a f m) (0 + T (nrm p a) f m)
    rw [Int.zero_add]
    exact z.symm
theorem divM_len : (divM p a b).2.length ≤ b.length - 1 := by
  have hb1 : 0 < b.length := List.length_pos_iff.mpr hb
  have fin : ∀ xs : List Int, (∀ j, b.length - 1 ≤ j → Md p (xs.getD j 0) 0) → (nrm p xs).length ≤ b.length - 1 := by
    intro xs h
    unfold nrm
    refine trim_short fun i hi => ?_
    have z := h i hi
    by_cases hl : i < xs.length
    · rw [getD_lt (by simpa using hl)]
      rw [getD_lt hl] at z
      simp only [List.getElem_map]
      have z : xs[i] % p = 0 % p := z
      simpa using z
    · exact getD_ge (by simp; omega)
  by_cases hab : b.length ≤ a.length + 1
  · obtain ⟨_, r2⟩ := divRows_ok b (invM p (lastM b)) hb hi (a.length + 1 - b.length) (List.replicate (a.length + 1 - b.length) 0) a (by rw [List.length_replicate]; omega) (by omega) (fun j hj => by simp [List.getD_eq_getElem?_getD, List.getElem?_replicate, hj]) (fun j hj => by rw [getD_ge (by omega)]; rfl)
    exact fin _ r2
  · have e : a.length + 1 - b.length = 0 := by omega
    unfold divM
    rw [e]
    exact fin a fun j hj => by rw [getD_ge (by omega)]; rfl
end
theorem divRows_len (p : Int) (b : List Int) (inv : Int) : ∀ (n : Nat) (found left : List Int), (divRows p b inv n found left).1.length = found.length
  | 0, _, _ => rfl
  | n + 1, found, left => by
    show (divRows p b inv n _ _).1.length = _
    rw [divRows_len p b inv n, List.length_set]
theorem divM_len1 {p : Int} (a b : List Int) : (divM p a b).1.length ≤ a.length + 1 - b.length := by
  unfold divM nrm
  refine Nat.le_trans (trim_len _) ?_
  rw [List.length_map, divRows_len, List.length_replicate]
  exact Nat.le_refl _
/-! ### the four primes -/
def isP (p : Int) : Prop := p = 2 ∨ p = 3 ∨ p = 5 ∨ p = 7
theorem isP.pos {p : Int} (h : isP p) : 0 < p := by rcases h with h | h | h | h <;> omega
theorem inv_ok {p x : Int} (h : isP p) (h0 : x ≠ 0) (h1 : 0 ≤ x ∧ x < p) : Md p (invM p x * x) 1 ∧ 0 < invM p x ∧ invM p x < p := by
  rcases h with rfl | rfl | rfl | rfl
  · have : x = 1 := by omega
    subst this; unfold Md; decide +kernel
  · have : x = 1 ∨ x = 2 := by omega
    rcases this with rfl | rfl <;> (unfold Md; decide +kernel)
  · have : x = 1 ∨ x = 2 ∨ x = 3 ∨ x = 4 := by omega
    rcases this with rfl | rfl | rfl | rfl <;> (unfold Md; decide +kernel)
  · have : x = 1 ∨ x = 2 ∨ x = 3 ∨ x = 4 ∨ x = 5 ∨ x = 6 := by omega
    rcases this with rfl | rfl | rfl | rfl | rfl | rfl <;> (unfold Md; decide +kernel)
theorem last_ok {p : Int} (hp : 0 < p) {b : List Int} (h : Nrm p b) (hb : b ≠ []) : lastM b ≠ 0 ∧ 0 ≤ lastM b ∧ lastM b < p := by
  rcases trim_last h.tr with e | e
  · exact absurd e hb
  · exact ⟨e, getD_lo hp h.lo _⟩
theorem inv_last {p : Int} (h : isP p) {b : List Int} (hb : Nrm p b) (hn : b ≠ []) : Md p (invM p (lastM b) * lastM b) 1 := by
  obtain ⟨a, c⟩ := last_ok h.pos hb hn
  exact (inv_ok h a c).1
end Pm
namespace Pm
/-! ### common divisors -/
def comM (p : Int) : Nat → List Int → List Int → List Int
  | 0, a, _ => a
  | n + 1, a, b => if b = [] then a else comM p n b (divM p a b).2
theorem comM_two {p : Int} (h : isP p) : ∀ (n m : Nat) (a b : List Int), Nrm p b → b.length + 1 ≤ n → b.length + 1 ≤ m → comM p n a b = comM p m a b
  | 0, _, _, _, _, l, _ => by omega
  | _ + 1, 0, _, _, _, _, l => by omega
  | n + 1, m + 1, a, b, hb, l, l2 => by
    show (if b = [] then a else comM p n b (divM p a b).2) = if b = [] then a else comM p m b (divM p a b).2
    by_cases e : b = []
    · rw [if_pos e, if_pos e]
    · rw [if_neg e, if_neg e]
      have hl := divM_len (a := a) e (inv_last h hb e)
      have hb1 : 0 < b.length := List.length_pos_iff.mpr e
      exact comM_two h n m b _ (divM_nrm h.pos a b).2 (by omega) (by omega)
theorem comM_nrm {p : Int} (hp : 0 < p) : ∀ (n : Nat) (a b : List Int), Nrm p a → Nrm p b → Nrm p (comM p n a b)
  | 0, _, _, ha, _ => ha
  | n + 1, a, b, ha, hb => by
    show Nrm p (if b = [] then a else comM p n b (divM p a b).2)
    split
    · exact ha
    · exact comM_nrm hp n b _ hb (divM_nrm hp a b).2
def gcdM (p : Int) (a b : List Int) : List Int := comM p (b.length + 1) a b
def monM (p : Int) (a : List Int) : List Int := if a = [] then [] else scaM p a (invM p (lastM a))
def papM (p : Int) : Nat → List Int → List Int → List Int → List Int → List Int → List Int → List Int × List Int × List Int
  | 0, first, _, u, v, _, _ => (first, u, v)
  | n + 1, first, second, u, v, s, w => if second = [] then (first, u, v) else papM p n second (divM p first second).2 s w (plusM p u (timesM p (divM p first second).1 s) (-1)) (plusM p v (timesM p (divM p first second).1 w) (-1))
theorem papM_first (p : Int) : ∀ (n : Nat) (first second u v s w : List Int), (papM p n first second u v s w).1 = comM p n first second
  | 0, _, _, _, _, _, _ => rfl
  | n + 1, first, second, u, v, s, w => by
    show (if second = [] then (first, u, v) else papM p n second _ s w _ _).1 = if second = [] then first else _
    by_cases e : second = []
    · rw [if_pos e, if_pos e]
    · rw [if_neg e, if_neg e]
      exact papM_first p n ..
theorem papM_nrm {p : Int} (hp : 0 < p) : ∀ (n : Nat) (first second u v s w : List Int), Nrm p u → Nrm p v → Nrm p s → Nrm p w → Nrm p (papM p n first second u v s w).2.1 ∧ Nrm p (papM p n first second u v s w).2.2
  | 0, _, _, _, _, _, _, hu, hv, _, _ => ⟨hu, hv⟩
  | n + 1, first, second, u, v, s, w, hu, hv, hs, hw => by
    have key : ∀ x : List Int × List Int × List Int, x = (if second = [] then (first, u, v) else papM p n second (divM p first second).2 s w (plusM p u (timesM p (divM p first second).1 s) (-1)) (plusM p v (timesM p (divM p first second).1 w) (-1))) → Nrm p x.2.1 ∧ Nrm p x.2.2 := by
      intro x hx
      by_cases e : second = []
      · rw [hx, if_pos e]; exact ⟨hu, hv⟩
      · rw [hx, if_neg e]
        exact papM_nrm hp n _ _ _ _ _ _ hs hw (plusM_ok hp _ _ _) (plusM_ok hp _ _ _)
    exact key _ rfl
/-- the two factors make it -/
theorem papM_makes {p : Int} (h : isP p) (a b : List Int) : ∀ (n : Nat) (first second u v s w : List Int), Nrm p second →
    (∀ f m, Md p (T first f m) (T u (T a f) m + T v (T b f) m)) → (∀ f m, Md p (T second f m) (T s (T a f) m + T w (T b f) m)) →
    ∀ f m, Md p (T (papM p n first second u v s w).1 f m) (T (papM p n first second u v s w).2.1 (T a f) m + T (papM p n first second u v s w).2.2 (T b f) m)
  | 0, _, _, _, _, _, _, _, h1, _ => h1
  | n + 1, first, second, u, v, s, w, hs, h1, h2 => by
    have key : ∀ x : List Int × List Int × List Int, x = (if second = [] then (first, u, v) else papM p n second (divM p first second).2 s w (plusM p u (timesM p (divM p first second).1 s) (-1)) (plusM p v (timesM p (divM p first second).1 w) (-1))) → ∀ f m, Md p (T x.1 f m) (T x.2.1 (T a f) m + T x.2.2 (T b f) m) := by
      intro x hx
      by_cases e : second = []
      · rw [hx, if_pos e]; exact h1
      · rw [hx, if_neg e]
        refine papM_makes h a b n _ _ _ _ _ _ (divM_nrm h.pos first second).2 h2 fun f m => ?_
        have d := divM_T (a := first) e (inv_last h hs e) f m
        have tq : Md p (T (divM p first second).1 (T second f) m) (T (divM p first second).1 (T s (T a f)) m + T (divM p first second).1 (T w (T b f)) m) := by
          have z := T_congr (p := p) (divM p first second).1 (h2 f) m
          rw [T_add] at z
          exact z
        have pu := T_plusM (p := p) u (timesM p (divM p first second).1 s) (-1) (T a f) m
        have pv := T_plusM (p := p) v (timesM p (divM p first second).1 w) (-1) (T b f) m
        have tu := T_timesM (p := p) (divM p first second).1 s (T a f) m
        have tv := T_timesM (p := p) (divM p first second).1 w (T b f) m
        have r1 : Md p (T (divM p first second).2 f m) (T first f m - T (divM p first second).1 (T second f) m) := by
          have z := Md.sub d (Md.refl (p := p) (a := T (divM p first second).1 (T second f) m))
          rw [show T (divM p first second).1 (T second f) m + T (divM p first second).2 f m - T (divM p first second).1 (T second f) m = T (divM p first second).2 f m by omega] at z
          exact z.symm
        refine (r1.trans (Md.sub (h1 f m) tq)).trans ?_
        refine Md.trans (Md.of_eq ?_) (Md.add (pu.trans (Md.add Md.refl (Md.mul Md.refl tu))) (pv.trans (Md.add Md.refl (Md.mul Md.refl tv)))).symm
        omega
    exact key _ rfl
/-- the first factor is of small degree -/
theorem papM_small {p : Int} (h : isP p) (L : Nat) : ∀ (n : Nat) (first second u v s w : List Int), Nrm p second → second.length < first.length → s.length + first.length ≤ L + 1 → u.length + first.length ≤ L →
    (papM p n first second u v s w).2.1.length + (papM p n first second u v s w).1.length ≤ L
  | 0, _, _, _, _, _, _, _, _, _, h2 => h2
  | n + 1, first, second, u, v, s, w, hs, hl, h1, h2 => by
    have key : ∀ x : List Int × List Int × List Int, x = (if second = [] then (first, u, v) else papM p n second (divM p first second).2 s w (plusM p u (timesM p (divM p first second).1 s) (-1)) (plusM p v (timesM p (divM p first second).1 w) (-1))) → x.2.1.length + x.1.length ≤ L := by
      intro x hx
      by_cases e : second = []
      · rw [hx, if_pos e]; exact h2
      · rw [hx, if_neg e]
        have hb1 : 0 < second.length := List.length_pos_iff.mpr e
        have dl := divM_len (a := first) e (inv_last h hs e)
        have dq := divM_len1 (p := p) first second
        have tl := timesM_len (p := p) (divM p first second).1 s
        have pl := plusM_len (p := p) u (timesM p (divM p first second).1 s) (-1)
        refine papM_small h L n _ _ _ _ _ _ (divM_nrm h.pos first second).2 (by omega) ?_ (by omega)
        omega
    exact key _ rfl
/-! ### powers -/
def It (a : List Int) : Nat → (Nat → Int) → Nat → Int
  | 0, f => f
  | n + 1, f => T a (It a n f)
theorem It_add (a : List Int) (m n : Nat) (f : Nat → Int) : It a (m + n) f = It a m (It a n f) := by
  induction m with
  | zero => rw [Nat.zero_add]; rfl
  | succ m ih => rw [Nat.succ_add]; show T a (It a (m + n) f) = T a (It a m (It a n f)); rw [ih]
theorem It_congr {p : Int} (a : List Int) (n : Nat) {f g : Nat → Int} (h : ∀ m, Md p (f m) (g m)) : ∀ m, Md p (It a n f m) (It a n g m) := by
  induction n with
  | zero => exact h
  | succ n ih => exact T_congr a ih
theorem It_alike {p : Int} {a b : List Int} (h : ∀ f m, Md p (T b f m) (T a (T a f) m)) (n : Nat) (f : Nat → Int) : ∀ m, Md p (It b n f m) (It a (2 * n) f m) := by
  induction n with
  | zero => exact fun _ => rfl
  | succ n ih =>
    intro m
    have e : It a (2 * (n + 1)) f = T a (T a (It a (2 * n) f)) := by
      rw [show 2 * (n + 1) = 2 * n + 1 + 1 by omega]
      rfl
    rw [e]
    exact (h _ m).trans (T_congr a (T_congr a ih) m)
def repM (p : Int) (a : List Int) : Nat → List Int
  | 0 => [1]
  | n + 1 => prodM p (repM p a n) a
theorem T_one (f : Nat → Int) (n : Nat) : T [1] f n = f n := by show 1 * f n + 0 = f n; omega
theorem T_repM {p : Int} (a : List Int) : ∀ (n : Nat) (f : Nat → Int) (m : Nat), Md p (T (repM p a n) f m) (It a n f m)
  | 0, f, m => by show Md p (T [1] f m) (f m); rw [T_one]; rfl
  | n + 1, f, m => by
    refine (T_prodM (repM p a n) a f m).trans ((T_repM a n (T a f) m).trans (Md.of_eq ?_))
    have e : It a n (It a 1 f) = It a 1 (It a n f) := by rw [← It_add, ← It_add, Nat.add_comm]
    exact congrFun e m
def powLoop (p : Int) : Nat → List Int → List Int → Nat → List Int
  | 0, found, _, _ => found
  | n + 1, found, square, left => if left = 0 then found else powLoop p n (if left % 2 = 1 then timesM p found square else found) (if 1 < left then timesM p square square else square) (left / 2)
theorem powLoop_nrm {p : Int} (hp : 0 < p) : ∀ (n : Nat) (found square : List Int) (left : Nat), Nrm p found → Nrm p (powLoop p n found square left)
  | 0, _, _, _, h => h
  | n + 1, found, square, left, h => by
    show Nrm p (if left = 0 then found else _)
    split
    · exact h
    · refine powLoop_nrm hp n _ _ _ ?_
      split
      · exact timesM_ok hp _ _
      · exact h
theorem T_powLoop {p : Int} : ∀ (n : Nat) (found square : List Int) (left : Nat), left ≤ n → ∀ f m, Md p (T (powLoop p n found square left) f m) (T found (It square left f) m)
  | 0, found, square, left, h, f, m => by
    have : left = 0 := by omega
    subst this
    exact Md.refl
  | n + 1, found, square, left, h, f, m => by
    show Md p (T (if left = 0 then found else powLoop p n (if left % 2 = 1 then timesM p found square else found) (if 1 < left then timesM p square square else square) (left / 2)) f m) _
    by_cases h0 : left = 0
    · rw [if_pos h0, h0]; exact Md.refl
    · rw [if_neg h0]
      refine (T_powLoop n _ _ (left / 2) (by omega) f m).trans ?_
      have sq : ∀ m, Md p (It (if 1 < left then timesM p square square else square) (left / 2) f m) (It square (2 * (left / 2)) f m) := by
        by_cases h1 : 1 < left
        · rw [if_pos h1]
          exact It_alike (fun f m => T_timesM square square f m) (left / 2) f
        · rw [if_neg h1, show left / 2 = 0 by omega]
          exact fun _ => Md.refl
      by_cases ho : left % 2 = 1
      · rw [if_pos ho]
        refine (T_timesM found square _ m).trans ?_
        have e : It square left f = T square (It square (2 * (left / 2)) f) := by
          show _ = It square (2 * (left / 2) + 1) f
          rw [show 2 * (left / 2) + 1 = left by omega]
        rw [e]
        exact T_congr found (T_congr square sq) m
      · rw [if_neg ho]
        have e : left = 2 * (left / 2) := by omega
        have z := T_congr (p := p) found sq m
        rw [← e] at z
        exact z
theorem one_nrm {p : Int} (h : isP p) : Nrm p [1] := ⟨fun x hx => by
  simp at hx
  rcases h with h | h | h | h <;> omega, rfl⟩
theorem pow_rep {p : Int} (h : isP p) (a : List Int) (n k : Nat) (hk : k ≤ n) : powLoop p n [1] a k = repM p a k := by
  refine TE.uniq h.pos (powLoop_nrm h.pos n _ _ _ (one_nrm h)) ?_ fun f m => ?_
  · cases k with
    | zero => exact one_nrm h
    | succ k => exact prodM_ok h.pos _ _
  · refine (T_powLoop n [1] a k hk f m).trans ?_
    rw [T_one]
    exact (T_repM a k f m).symm
/-! ### values, slopes -/
def valM (p : Int) (a : List Int) (x : Int) : Int := a.reverse.foldl (fun acc e => (acc * x + e) % p) 0
def sloM (p : Int) (a : List Int) : List Int := nrm p ((a.zipIdx.map fun q => (q.2 : Int) * q.1).drop 1)
end Pm
namespace Pm
theorem papM_two {p : Int} (h : isP p) : ∀ (n m : Nat) (a b u v s w : List Int), Nrm p b → b.length + 1 ≤ n → b.length + 1 ≤ m → papM p n a b u v s w = papM p m a b u v s w
  | 0, _, _, _, _, _, _, _, _, l, _ => by omega
  | _ + 1, 0, _, _, _, _, _, _, _, _, l => by omega
  | n + 1, m + 1, a, b, u, v, s, w, hb, l, l2 => by
    show (if b = [] then (a, u, v) else papM p n b _ s w _ _) = if b = [] then (a, u, v) else papM p m b _ s w _ _
    by_cases e : b = []
    · rw [if_pos e, if_pos e]
    · rw [if_neg e, if_neg e]
      have hl := divM_len (a := a) e (inv_last h hb e)
      have hb1 : 0 < b.length := List.length_pos_iff.mpr e
      exact papM_two h n m b _ _ _ _ _ (divM_nrm h.pos a b).2 (by omega) (by omega)
theorem papM_step {p : Int} (h : isP p) {a b : List Int} (u v s w : List Int) (hb : Nrm p b) (e : b ≠ []) : papM p (b.length + 1) a b u v s w = papM p ((divM p a b).2.length + 1) b (divM p a b).2 s w (plusM p u (timesM p (divM p a b).1 s) (-1)) (plusM p v (timesM p (divM p a b).1 w) (-1)) := by
  show (if b = [] then (a, u, v) else papM p b.length b _ s w _ _) = _
  rw [if_neg e]
  have hl := divM_len (a := a) e (inv_last h hb e)
  have hb1 : 0 < b.length := List.length_pos_iff.mpr e
  exact papM_two h _ _ b _ _ _ _ _ (divM_nrm h.pos a b).2 (by omega) (by omega)
theorem powLoop_two {p : Int} : ∀ (n m : Nat) (found square : List Int) (left : Nat), left ≤ n → left ≤ m → powLoop p n found square left = powLoop p m found square left
  | 0, m, found, square, left, l, l2 => by
    have : left = 0 := by omega
    subst this
    cases m with
    | zero => rfl
    | succ m => rfl
  | n + 1, 0, found, square, left, l, l2 => by
    have : left = 0 := by omega
    subst this
    rfl
  | n + 1, m + 1, found, square, left, l, l2 => by
    show (if left = 0 then found else powLoop p n _ _ (left / 2)) = if left = 0 then found else powLoop p m _ _ (left / 2)
    by_cases e : left = 0
    · rw [if_pos e, if_pos e]
    · rw [if_neg e, if_neg e]
      exact powLoop_two n m _ _ _ (by omega) (by omega)
theorem powLoop_step {p : Int} (found square : List Int) {left : Nat} (e : left ≠ 0) : powLoop p left found square left = powLoop p (left / 2) (if left % 2 = 1 then timesM p found square else found) (if 1 < left then timesM p square square else square) (left / 2) := by
  obtain ⟨n, rfl⟩ : ∃ n, left = n + 1 := ⟨left - 1, by omega⟩
  show (if n + 1 = 0 then found else powLoop p n _ _ ((n + 1) / 2)) = _
  rw [if_neg e]
  exact powLoop_two _ _ _ _ _ (by omega) (by omega)
theorem deg_times {p : Int} (a b : List Int) : (timesM p a b).length - 1 ≤ (a.length - 1) + (b.length - 1) := by
  have := timesM_len (p := p) a b
  omega
end Pm
namespace Pm
theorem nrm_zero {p : Int} (hp : 0 < p) {xs : List Int} (h : Nrm p xs) (hz : ∀ f m, Md p (T xs f m) 0) : xs = [] := TE.uniq hp h nrm_nil fun f m => hz f m
theorem plus_self {p : Int} (hp : 0 < p) (a : List Int) : plusM p a a (-1) = [] := by
  refine nrm_zero hp (plusM_ok hp _ _ _) fun f m => (T_plusM a a (-1) f m).trans (Md.of_eq ?_)
  omega
theorem div_nil {p : Int} {b : List Int} (hb : b ≠ []) : divM p [] b = ([], []) := by
  have hl : 0 < b.length := List.length_pos_iff.mpr hb
  have e : ([] : List Int).length + 1 - b.length = 0 := by simp; omega
  unfold divM
  rw [e]
  rfl
/-- what the paper tells: s, f, w -/
structure Paper (p : Int) (a b s f w : List Int) : Prop where
  ns : Nrm p s
  nf : Nrm p f
  nw : Nrm p w
  com : s = monM p (gcdM p a b)
  made : plusM p (prodM p f a) (prodM p w b) 1 = s
  fa : a = [] → f = []
  wb : b = [] → w = []
  small : a ≠ [] → b ≠ [] → f.length + s.length ≤ b.length
  lf : f.length ≤ 400
  lw : w.length ≤ 400
theorem T_nil (f : Nat → Int) (n : Nat) : T [] f n = 0 := rfl
theorem made_T {p : Int} (f w a b : List Int) (h : Nat → Int) (m : Nat) : Md p (T (plusM p (prodM p f a) (prodM p w b) 1) h m) (T f (T a h) m + T w (T b h) m) := by
  refine (T_plusM _ _ 1 h m).trans ?_
  rw [Int.one_mul]
  exact Md.add (T_prodM f a h m) (T_prodM w b h m)
theorem sca_nil {p c : Int} : scaM p [] c = [] := rfl
theorem paper_ok {p : Int} (h : isP p) {a b : List Int} (ha : Nrm p a) (hb : Nrm p b) (hl1 : (papM p (b.length + 1) a b [1] [] [] [1]).2.1.length ≤ 400) (hl2 : (papM p (b.length + 1) a b [1] [] [] [1]).2.2.length ≤ 400) :
    ∃ s f w, (if (papM p (b.length + 1) a b [1] [] [] [1]).1 = [] then [[], [], []] else [scaM p (papM p (b.length + 1) a b [1] [] [] [1]).1 (invM p (lastM (papM p (b.length + 1) a b [1] [] [] [1]).1)), scaM p (papM p (b.length + 1) a b [1] [] [] [1]).2.1 (invM p (lastM (papM p (b.length + 1) a b [1] [] [] [1]).1)), scaM p (papM p (b.length + 1) a b [1] [] [] [1]).2.2 (invM p (lastM (papM p (b.length + 1) a b [1] [] [] [1]).1))]) = [s, f, w] ∧ Paper p a b s f w := by
  have e1 : (papM p (b.length + 1) a b [1] [] [] [1]).1 = gcdM p a b := papM_first p _ a b [1] [] [] [1]
  have mk := papM_makes h a b (b.length + 1) a b [1] [] [] [1] hb (fun f m => by rw [T_one, T_nil, Int.add_zero]; rfl) (fun f m => by rw [T_one, T_nil, Int.zero_add]; rfl)
  have fa : a = [] → gcdM p a b ≠ [] → (papM p (b.length + 1) a b [1] [] [] [1]).2.1 = [] := by
    intro z hg
    have hb0 : b ≠ [] := fun zb => hg (by rw [z, zb]; rfl)
    rw [papM_step h _ _ _ _ hb hb0, z, div_nil hb0]
    rfl
  have wb : b = [] → (papM p (b.length + 1) a b [1] [] [] [1]).2.2 = [] := by
    intro z
    rw [z]; rfl
  have sm : a ≠ [] → b ≠ [] → (papM p (b.length + 1) a b [1] [] [] [1]).2.1.length + (papM p (b.length + 1) a b [1] [] [] [1]).1.length ≤ b.length := by
    intro _ hb0
    have hl : 0 < b.length := List.length_pos_iff.mpr hb0
    rw [papM_step h _ _ _ _ hb hb0]
    have dl := divM_len (a := a) hb0 (inv_last h hb hb0)
    refine papM_small h b.length _ _ _ _ _ _ _ (divM_nrm h.pos a b).2 (by omega) ?_ (by simp)
    have pl := plusM_len (p := p) [1] (timesM p (divM p a b).1 []) (-1)
    have tl : timesM p (divM p a b).1 [] = [] := by unfold timesM; rw [if_pos (.inr rfl)]
    rw [tl] at pl ⊢
    simp at pl
    omega
  generalize papM p (b.length + 1) a b [1] [] [] [1] = r at e1 mk fa wb sm hl1 hl2 ⊢
  obtain ⟨g, u, v⟩ := r
  simp only at e1 mk fa wb sm hl1 hl2 ⊢
  subst e1
  by_cases hg : gcdM p a b = []
  · rw [if_pos hg]
    refine ⟨[], [], [], rfl, ⟨nrm_nil, nrm_nil, nrm_nil, by rw [hg]; rfl, ?_, fun _ => rfl, fun _ => rfl, fun _ _ => Nat.zero_le _, Nat.zero_le _, Nat.zero_le _⟩⟩
    exact nrm_zero h.pos (plusM_ok h.pos _ _ _) fun f m => (made_T [] [] a b f m).trans rfl
  · rw [if_neg hg]
    refine ⟨_, _, _, rfl, ⟨scaM_ok h.pos _ _, scaM_ok h.pos _ _, scaM_ok h.pos _ _, by unfold monM; rw [if_neg hg], ?_, fun z => by rw [fa z hg]; rfl, fun z => by rw [wb z]; rfl, fun z1 z2 => ?_, Nat.le_trans (scaM_len _ _) hl1, Nat.le_trans (scaM_len _ _) hl2⟩⟩
    · refine TE.uniq h.pos (plusM_ok h.pos _ _ _) (scaM_ok h.pos _ _) fun f m => ?_
      refine (made_T _ _ a b f m).trans ?_
      refine (Md.add (T_scaM u _ (T a f) m) (T_scaM v _ (T b f) m)).trans ?_
      refine Md.trans (Md.of_eq ?_) ((Md.mul Md.refl (mk f m)).symm.trans (T_scaM (gcdM p a b) (invM p (lastM (gcdM p a b))) f m).symm)
      rw [Int.mul_add]
    · have := sm z1 z2
      have l1 := scaM_len (p := p) u (invM p (lastM (gcdM p a b)))
      have l2 := scaM_len (p := p) (gcdM p a b) (invM p (lastM (gcdM p a b)))
      omega
end Pm
namespace DS
open PySem PySem.Spec PyProof.Rows L2

/-! ### plain steps -/
section
variable {a b : Type} {x : a} {st st1 : Sto} {sd : Sl} {c : Exc} {k : a → Sto → Res b} {kS : a → Sto → SR}
@[simp] theorem rb_ok : (Res.ok x st).bind k = k x st := id rfl
@[simp] theorem rb_ex : (Res.ex c st : Res a).bind k = .ex c st := id rfl
@[simp] theorem rb_stk : (Res.stk : Res a).bind k = .stk := id rfl
@[simp] theorem rs_ok : (Res.ok x st).toS sd kS = kS x st := id rfl
@[simp] theorem rs_ex : (Res.ex c st : Res a).toS sd kS = .ex c sd st := id rfl
@[simp] theorem rs_stk : (Res.stk : Res a).toS sd kS = .stk := id rfl
@[simp] theorem ro_some : Res.ofO (some x) st = .ok x st := id rfl
@[simp] theorem ro_none : (Res.ofO none st : Res a) = .stk := id rfl
@[simp] theorem rn_ok : (Res.ok x st).noex = .ok x st := id rfl
end
section
variable {st : Sto} {sd : Sl} {d : D} {f fa fb fc : EE} {fs fr : EA} {t t2 : ET} {g g2 : SS} {i j l : Nat}
@[simp] theorem ev_c : eC d sd st = .ok d st := id rfl
theorem ev_var : eVar i sd st = match sd[i]? with
  | some (some d) => .ok d st
  | _ => .stk := rfl
@[simp] theorem ev_v0 {r : Sl} : eVar 0 (some d :: r) st = .ok d st := id rfl
@[simp] theorem ev_vs {o : Option D} {r : Sl} : eVar (i + 1) (o :: r) st = eVar i r st := id rfl
@[simp] theorem ev_op {o : Sto → D → D → Option D} : eOp o fa fb sd st = (fa sd st).bind fun x st1 => (fb sd st1).bind fun y st2 => Res.ofO (o st2 x y) st2 := id rfl
@[simp] theorem ev_fop {o : Sto → D → D → Option (List D)} : fOp o fa fb sd st = (fa sd st).bind fun x st1 => (fb sd st1).bind fun y st2 => Res.ofO (o st2 x y) st2 := id rfl
@[simp] theorem ev_un {o : Sto → D → Option D} : eUn o fa sd st = (fa sd st).bind fun x st1 => Res.ofO (o st1 x) st1 := id rfl
@[simp] theorem ev_nil : aNil sd st = .ok [] st := id rfl
@[simp] theorem ev_cons : aCons fa fr sd st = (fa sd st).bind fun x st1 => (fr sd st1).bind fun xs st2 => .ok (x :: xs) st2 := id rfl
@[simp] theorem ev_tup : eTup fs sd st = (fs sd st).bind fun xs st1 => if xs.length ≤ lineN then .ok (.tup xs) st1 else .stk := id rfl
@[simp] theorem ev_lst : fLst fs sd st = (fs sd st).bind fun xs st1 => if xs.length ≤ lineN then .ok xs st1 else .stk := id rfl
@[simp] theorem ev_fz : eFz fs sd st = (fs sd st).bind fun xs st1 => .ok (.lst xs) st1 := id rfl
@[simp] theorem ev_hnd : eHnd fs sd st = (fs sd st).bind fun xs st1 => .ok (.hnd st1.length) (st1 ++ [.lst xs]) := id rfl
@[simp] theorem ev_test : eTest f sd st = (f sd st).bind fun x st1 => Res.ofO x.isB st1 := id rfl
@[simp] theorem isB_bl {k : Bool} : (D.bl k).isB = some k := id rfl
@[simp] theorem ev_and : eAnd t t2 sd st = (t sd st).bind fun x st1 => if x = true then t2 sd st1 else .ok false st1 := id rfl
@[simp] theorem ev_or : eOr t t2 sd st = (t sd st).bind fun x st1 => if x = true then .ok true st1 else t2 sd st1 := id rfl
@[simp] theorem ev_not : eNot t sd st = (t sd st).bind fun x st1 => .ok (!x) st1 := id rfl
theorem ev_andV : eAndV fa fb sd st = (fa sd st).bind fun x st1 => match x with
  | .bl true => fb sd st1
  | .bl false => .ok (.bl false) st1
  | _ => .stk := rfl
@[simp] theorem ev_andV' {k : Bool} {st1 : Sto} (h : fa sd st = .ok (.bl k) st1) : eAndV fa fb sd st = if k = true then fb sd st1 else .ok (.bl false) st1 := by
  rw [ev_andV, h]; cases k <;> rfl
theorem ev_orV : eOrV fa fb sd st = (fa sd st).bind fun x st1 => match x with
  | .bl true => .ok (.bl true) st1
  | .bl false => fb sd st1
  | _ => .stk := rfl
@[simp] theorem ev_orV' {k : Bool} {st1 : Sto} (h : fa sd st = .ok (.bl k) st1) : eOrV fa fb sd st = if k = true then .ok (.bl true) st1 else fb sd st1 := by
  rw [ev_orV, h]; cases k <;> rfl
@[simp] theorem ev_notV' {k : Bool} {st1 : Sto} (h : fa sd st = .ok (.bl k) st1) : eNotV fa sd st = .ok (.bl (!k)) st1 := by
  show (fa sd st).bind _ = _
  rw [h]; rfl
@[simp] theorem ev_if : eIf t fa fb sd st = (t sd st).bind fun x st1 => if x = true then fa sd st1 else fb sd st1 := id rfl
@[simp] theorem ev_cb {o : Sto → List D → Option D} : eCB o fs sd st = (fs sd st).bind fun xs st1 => Res.ofO (o st1 xs) st1 := id rfl
@[simp] theorem ev_fcb {o : Sto → List D → Option (List D)} : fCB o fs sd st = (fs sd st).bind fun xs st1 => Res.ofO (o st1 xs) st1 := id rfl
@[simp] theorem ev_chain {o o' : Sto → D → D → Option D} {st1 st2 : Sto} {x y : D} {k : Bool} (h1 : fa sd st = .ok x st1) (h2 : fb sd st1 = .ok y st2) (h3 : o st2 x y = some (.bl k)) : eChain o o' fa fb fc sd st = if k = true then (fc sd st2).bind fun z st3 => Res.ofO (o' st3 y z) st3 else .ok (.bl false) st2 := by
  unfold eChain
  rw [h1, rb_ok, h2, rb_ok, h3]
  cases k <;> rfl
@[simp] theorem ev_cal {n : Nat} {ff : FF} {dds : List D} : eCal n ff dds fs sd st = (fs sd st).bind fun ds st1 => callD n ff st1 (ds ++ dds) := id rfl
@[simp] theorem ev_calB {n : Nat} {ff : FF} {dds : List D} : eCalB n ff dds fs sd st = (fs sd st).bind fun ds st1 => callBD n ff st1 (ds ++ dds) := id rfl
@[simp] theorem ev_fcal {n : Nat} {ff : FL} {dds : List D} : fCal n ff dds fs sd st = (fs sd st).bind fun ds st1 => callLD n ff st1 (ds ++ dds) := id rfl
@[simp] theorem ev_calK {np nk n : Nat} {ff : FF} : eCalK np nk n ff fs fr sd st = (fs sd st).bind fun ds st1 => (fr sd st1).bind fun es st2 => if ds.length = np ∧ es.length = nk then (callD n ff st2 (ds ++ es)).noex else .stk := id rfl
@[simp] theorem sv_next : sNext sd st = .go .nx sd st := id rfl
@[simp] theorem sv_brk : sBrk sd st = .go .brk sd st := id rfl
@[simp] theorem sv_cnt : sCnt sd st = .go .cnt sd st := id rfl
@[simp] theorem sv_set : sSet i f sd st = (f sd st).toS sd fun x st1 => .go .nx (sd.set i (some x)) st1 := id rfl
@[simp] theorem sv_ret : sRet f sd st = (f sd st).toS sd fun x st1 => .go (.ret x) sd st1 := id rfl
@[simp] theorem sv_retN : sRetN sd st = .go (.ret .non) sd st := id rfl
@[simp] theorem sv_drop : sDrop f sd st = (f sd st).toS sd fun _ st1 => .go .nx sd st1 := id rfl
@[simp] theorem sv_if : sIf t g g2 sd st = (t sd st).toS sd fun x st1 => if x = true then g sd st1 else g2 sd st1 := id rfl
def seqK (r : SR) (k : Sl → Sto → SR) : SR := match r with
  | .go .nx sd1 st1 => k sd1 st1
  | r => r
@[simp] theorem sv_seq : sSeq g g2 sd st = seqK (g sd st) g2 := id rfl
@[simp] theorem sk_nx {k : Sl → Sto → SR} : seqK (.go .nx sd st) k = k sd st := id rfl
@[simp] theorem sk_ret {k : Sl → Sto → SR} : seqK (.go (.ret d) sd st) k = .go (.ret d) sd st := id rfl
@[simp] theorem sk_brk {k : Sl → Sto → SR} : seqK (.go .brk sd st) k = .go .brk sd st := id rfl
@[simp] theorem sk_cnt {k : Sl → Sto → SR} : seqK (.go .cnt sd st) k = .go .cnt sd st := id rfl
@[simp] theorem sk_ex {c : Exc} {k : Sl → Sto → SR} : seqK (.ex c sd st) k = .ex c sd st := id rfl
theorem seqK_ite {p : Prop} [Decidable p] {r r2 : SR} {k : Sl → Sto → SR} : seqK (if p then r else r2) k = if p then seqK r k else seqK r2 k := by split <;> rfl
@[simp] theorem sv_asg {fg : D → SS} : sAsg f fg sd st = (f sd st).toS sd fun x st1 => tgtG (fg x sd st1) fun sd st => .go .nx sd st := id rfl
@[simp] theorem tg_nx {k : Sl → Sto → SR} : tgtG (.go .nx sd st) k = k sd st := id rfl
@[simp] theorem gv_name : gNameD i d sd st = .go .nx (sd.set i (some d)) st := id rfl
@[simp] theorem gv_tup {gs : List (D → SS)} {ds : List D} : gTupD gs (.tup ds) sd st = if ds.length = gs.length then gListD gs ds sd st else .stk := id rfl
@[simp] theorem gv_nil : gListD [] [] sd st = .go .nx sd st := id rfl
@[simp] theorem gv_cons {h : D → SS} {gs : List (D → SS)} {ds : List D} : gListD (h :: gs) (d :: ds) sd st = seqK (h d sd st) (gListD gs ds) := id rfl
@[simp] theorem sv_par2 {x y : D} {st1 : Sto} (h : fs sd st = .ok [x, y] st1) : sPar2 i j fs sd st = .go .nx ((sd.set i (some x)).set j (some y)) st1 := by
  show (fs sd st).toS sd _ = _
  rw [h]; rfl
@[simp] theorem sv_par3 {x y z : D} {st1 : Sto} (h : fs sd st = .ok [x, y, z] st1) : sPar3 i j l fs sd st = .go .nx (((sd.set i (some x)).set j (some y)).set l (some z)) st1 := by
  show (fs sd st).toS sd _ = _
  rw [h]; rfl
end
/-! ### numbers, tuples of numbers -/
def P (xs : List Int) : D := .tup (xs.map D.int)
@[simp] theorem P_fold (xs : List Int) : D.tup (xs.map D.int) = P xs := id rfl
theorem P_nil : D.tup [] = P [] := rfl
@[simp] theorem noHs_ints (xs : List Int) : D.noHs (xs.map D.int) = true := by
  induction xs with
  | nil => rfl
  | cons x xs ih => show ((D.int x).noH && D.noHs (xs.map D.int)) = true; rw [ih]; rfl
@[simp] theorem noLs_ints (xs : List Int) : D.noLs (xs.map D.int) = true := by
  induction xs with
  | nil => rfl
  | cons x xs ih => show ((D.int x).noL && D.noLs (xs.map D.int)) = true; rw [ih]; rfl
@[simp] theorem noH_P (xs : List Int) : (P xs).noH = true := noHs_ints xs
@[simp] theorem noL_P (xs : List Int) : (P xs).noL = true := noLs_ints xs
@[simp] theorem noHs_nil : D.noHs [] = true := id rfl
@[simp] theorem noHs_cons (x : D) (xs : List D) : D.noHs (x :: xs) = (x.noH && D.noHs xs) := id rfl
@[simp] theorem noLs_nil : D.noLs [] = true := id rfl
@[simp] theorem noLs_cons (x : D) (xs : List D) : D.noLs (x :: xs) = (x.noL && D.noLs xs) := id rfl
@[simp] theorem noH_int (i : Int) : (D.int i).noH = true := id rfl
@[simp] theorem noH_bl (i : Bool) : (D.bl i).noH = true := id rfl
@[simp] theorem noH_str (i : Str) : (D.str i).noH = true := id rfl
@[simp] theorem noH_non : D.non.noH = true := id rfl
@[simp] theorem noH_tup (xs : List D) : (D.tup xs).noH = D.noHs xs := id rfl
@[simp] theorem noH_lst (xs : List D) : (D.lst xs).noH = D.noHs xs := id rfl
@[simp] theorem noH_scr (xs : List D) : (D.scr xs).noH = D.noHs xs := id rfl
@[simp] theorem noH_hnd (i : Nat) : (D.hnd i).noH = false := id rfl
@[simp] theorem noL_int (i : Int) : (D.int i).noL = true := id rfl
@[simp] theorem noL_bl (i : Bool) : (D.bl i).noL = true := id rfl
@[simp] theorem noL_non : D.non.noL = true := id rfl
@[simp] theorem noL_tup (xs : List D) : (D.tup xs).noL = D.noLs xs := id rfl
theorem noHs_app (xs ys : List D) : D.noHs (xs ++ ys) = (D.noHs xs && D.noHs ys) := by
  induction xs with
  | nil => rfl
  | cons x xs ih => rw [List.cons_append, noHs_cons, noHs_cons, ih, Bool.and_assoc]
/-- a call, by what the def's function tells -/
theorem cd_ok {n : Nat} {ff : FF} {ds : List D} {d : D} (h : ff [] ds = .ok d []) (hl : ds.length = n) (hn : D.noHs ds = true) (st : Sto) : callD n ff st ds = .ok d st := by
  unfold callD
  rw [if_pos hl, if_pos hn, h]
  rfl
/-- .. with lists that may change, as they stand -/
theorem cd_snap {n : Nat} {ff : FF} {ds es : List D} {d : D} {st : Sto} (h : ff [] es = .ok d []) (hl : ds.length = n) (hs : snaps st ds = some es) (hd : d.noL = true) (hn : D.noHs ds = true → ds = es) : callD n ff st ds = .ok d st := by
  unfold callD
  rw [if_pos hl]
  by_cases q : D.noHs ds = true
  · rw [if_pos q, hn q, h]; rfl
  · rw [if_neg q, hs]
    show callR st false (ff [] es) = _
    rw [h]
    show (if (false || d.noL) = true then Res.ok d st else Res.stk) = _
    rw [hd]; rfl
theorem cb_ok {n h : Nat} {ff : FF} {rest xs ys : List D} {d : D} {st : Sto} (hs : st[h]? = some (.lst xs)) (hf : ff [.lst xs] (.hnd 0 :: rest) = .ok d [.lst ys]) (hl : (D.hnd h :: rest).length = n) (h1 : D.noHs xs = true) (h2 : D.noHs rest = true) (h3 : d.noH = true) (h4 : D.noHs ys = true) :
    callBD n ff st (.hnd h :: rest) = .ok d (st.set h (.lst ys)) := by
  unfold callBD
  rw [if_pos hl]
  show (match st[h]? with
    | some (.lst xs) => if D.noHs xs && D.noHs rest then callB st h (ff [.lst xs] (.hnd 0 :: rest)) else .stk
    | _ => .stk) = _
  rw [hs]
  show (if (D.noHs xs && D.noHs rest) = true then callB st h (ff [.lst xs] (.hnd 0 :: rest)) else .stk) = _
  rw [h1, h2, hf]
  show (if (d.noH && D.noHs ys) = true then Res.ok d (st.set h (.lst ys)) else .stk) = _
  rw [h3, h4]
  rfl
/-! ### operators -/
section
variable {st : Sto} {i j p : Int} {a b : List Int}
@[simp] theorem o_add : addD st (.int i) (.int j) = some (.int (i + j)) := id rfl
theorem o_cat (h : a.length + b.length ≤ lineN) : addD st (P a) (P b) = some (P (a ++ b)) := by
  show (if (a.map D.int).length + (b.map D.int).length ≤ lineN then some (D.tup (a.map D.int ++ b.map D.int)) else none) = _
  rw [if_pos (by simpa using h), ← List.map_append]
  rfl
@[simp] theorem o_ints {g : Int → Int → Option D} : ints2 g st (.int i) (.int j) = g i j := id rfl
theorem small_of (h1 : -(2 ^ 64) < i) (h2 : i < 2 ^ 64) : small64 i = true := by
  simp only [small64, Bool.and_eq_true, decide_eq_true_eq]
  exact ⟨h1, h2⟩
theorem o_mul (h : small64 i = true ∨ small64 j = true) : mulD st (.int i) (.int j) = some (.int (i * j)) := by
  show (mulI i j).or _ = _
  unfold mulI
  rw [if_pos (by rcases h with h | h <;> simp [h])]
  rfl
theorem o_mod (h : 0 < j) : modI i j = some (.int (i % j)) := by unfold modI; rw [if_pos h]
theorem o_div (h : 0 < j) (h2 : j.natAbs.log2 < 9000) : divI i j = some (.int (i / j)) := by unfold divI; rw [if_pos ⟨h, h2⟩]
@[simp] theorem o_neg : negD st (.int i) = some (.int (-i)) := id rfl
theorem pyDs_ints (xs : List Int) : pyDs (xs.map D.int) = some (xs.map PyData.int) := by
  induction xs with
  | nil => rfl
  | cons x xs ih =>
    show (match pyD (.int x), pyDs (xs.map D.int) with
      | some a, some as => some (a :: as)
      | _, _ => none) = _
    rw [ih]; rfl
theorem eqvAll_ints : ∀ (xs ys : List Int), PyData.eqvAll (xs.map PyData.int) (ys.map PyData.int) = decide (xs = ys)
  | [], [] => rfl
  | [], _ :: _ => rfl
  | _ :: _, [] => rfl
  | x :: xs, y :: ys => by
    show (PyData.eqv (.int x) (.int y) && PyData.eqvAll (xs.map PyData.int) (ys.map PyData.int)) = _
    rw [eqvAll_ints xs ys]
    show ((x == y) && decide (xs = ys)) = _
    by_cases h : x = y <;> by_cases h2 : xs = ys <;> simp [h, h2]
theorem shaped_ints (xs : List Int) : SeqAt.shaped (.tuple (xs.map PyData.int)) = true ∧ SeqAt.shaped (.list (xs.map PyData.int)) = true := by
  have h1 : ∀ xs : List Int, PyData.canLayAll0 (xs.map PyData.int) = true := by
    intro xs
    induction xs with
    | nil => rfl
    | cons x xs ih => show (PyData.canLay0 (.int x) && PyData.canLayAll0 (xs.map PyData.int)) = true; rw [ih]; rfl
  have h2 : ∀ xs : List Int, PyData.depthAll (xs.map PyData.int) ≤ 1 := by
    intro xs
    induction xs with
    | nil => decide
    | cons x xs ih => show max (PyData.depth (.int x)) (PyData.depthAll (xs.map PyData.int)) ≤ 1; exact Nat.max_le.mpr ⟨by simp [PyData.depth], ih⟩
  constructor
  · unfold SeqAt.shaped
    show (PyData.canLayAll0 (xs.map PyData.int) && decide (PyData.depthAll (xs.map PyData.int) + 1 ≤ 64)) = true
    rw [h1, decide_eq_true (by have := h2 xs; omega)]; rfl
  · unfold SeqAt.shaped
    show (PyData.canLayAll0 (xs.map PyData.int) && decide (PyData.depthAll (xs.map PyData.int) + 1 ≤ 64)) = true
    rw [h1, decide_eq_true (by have := h2 xs; omega)]; rfl
theorem eqB_P : eqB st (P a) (P b) = some (decide (a = b)) := by
  unfold eqB
  show (match (pyDs (a.map D.int)).map PyData.tuple, (pyDs (b.map D.int)).map PyData.tuple with
    | some a, some b => if SeqAt.shaped a && SeqAt.shaped b then some (PyData.eqv a b) else none
    | _, _ => none) = _
  rw [pyDs_ints, pyDs_ints]
  show (if SeqAt.shaped (.tuple (a.map PyData.int)) && SeqAt.shaped (.tuple (b.map PyData.int)) then some (PyData.eqvAll (a.map PyData.int) (b.map PyData.int)) else none) = _
  rw [(shaped_ints a).1, (shaped_ints b).1, eqvAll_ints]
  rfl
@[simp] theorem o_eqP : eqD st (P a) (P b) = some (.bl (decide (a = b))) := by unfold eqD; rw [eqB_P]; rfl
@[simp] theorem o_neP : neD st (P a) (P b) = some (.bl (!decide (a = b))) := by unfold neD; rw [eqB_P]; rfl
@[simp] theorem o_eqP0 : eqD st (P a) (.tup []) = some (.bl (decide (a = []))) := o_eqP (b := [])
@[simp] theorem o_neP0 : neD st (P a) (.tup []) = some (.bl (!decide (a = []))) := o_neP (b := [])
theorem eqB_I : eqB st (.int i) (.int j) = some (i == j) := rfl
@[simp] theorem o_eqI : eqD st (.int i) (.int j) = some (.bl (decide (i = j))) := by
  show some (D.bl (i == j)) = _
  by_cases h : i = j <;> simp [h]
@[simp] theorem o_neI : neD st (.int i) (.int j) = some (.bl (!decide (i = j))) := by
  show some (D.bl (!(i == j))) = _
  by_cases h : i = j <;> simp [h]
theorem eqB_L {xs ys : List Int} {x y : D} (hx : pyH st x = some (.list (xs.map PyData.int))) (hy : pyH st y = some (.list (ys.map PyData.int))) : eqB st x y = some (decide (xs = ys)) := by
  unfold eqB
  rw [hx, hy]
  show (if SeqAt.shaped (.list (xs.map PyData.int)) && SeqAt.shaped (.list (ys.map PyData.int)) then some (PyData.eqvAll (xs.map PyData.int) (ys.map PyData.int)) else none) = _
  rw [(shaped_ints xs).2, (shaped_ints ys).2, eqvAll_ints]
  rfl
theorem py_cell {xs : List Int} {h : Nat} (hs : st[h]? = some (.lst (xs.map D.int))) : pyH st (.hnd h) = some (.list (xs.map PyData.int)) := by
  show (match cellAt st h with
    | some xs => (pyDs xs).map PyData.list
    | none => none) = _
  unfold cellAt
  rw [hs]
  show (pyDs (xs.map D.int)).map PyData.list = _
  rw [pyDs_ints]; rfl
@[simp] theorem l_lenP : lenD st [P a] = some (.int a.length) := by
  show some (D.int (a.map D.int).length) = _
  rw [List.length_map]
@[simp] theorem l_lenL {xs : List D} : lenD st [.lst xs] = some (.int xs.length) := id rfl
@[simp] theorem l_lenS {xs : List D} : lenD st [.scr xs] = some (.int xs.length) := id rfl
@[simp] theorem l_lenT {xs : List D} : lenD st [.tup xs] = some (.int xs.length) := id rfl
theorem atI_map {α β : Type} (f : α → β) (xs : List α) (i : Int) : L2.atI (xs.map f) i = (L2.atI xs i).map f := by
  unfold L2.atI
  rw [List.length_map]
  cases ixN xs.length i with
  | none => rfl
  | some k => show (xs.map f)[k]? = _; rw [List.getElem?_map]; rfl
@[simp] theorem x_P : ixD st (P a) (.int i) = (L2.atI a i).map D.int := by
  show L2.atI (a.map D.int) i = _
  rw [atI_map]
@[simp] theorem x_T {xs : List D} : ixD st (.tup xs) (.int i) = L2.atI xs i := id rfl
@[simp] theorem x_L {xs : List D} : ixD st (.lst xs) (.int i) = L2.atI xs i := id rfl
@[simp] theorem x_S {xs : List D} : ixD st (.scr xs) (.int i) = L2.atI xs i := id rfl
theorem x_H {xs : List D} {h : Nat} (hs : st[h]? = some (.lst xs)) : ixD st (.hnd h) (.int i) = L2.atI xs i := by
  show (seqOf st (.hnd h)).bind _ = _
  show (cellAt st h).bind _ = _
  unfold cellAt
  rw [hs]; rfl
theorem atI_lt {α : Type} {xs : List α} {k : Nat} (h : k < xs.length) (hi : i = (k : Int)) : L2.atI xs i = some xs[k] := by
  subst hi
  unfold L2.atI ixN
  rw [if_pos (by omega), if_pos (by omega)]
  show xs[(k : Int).toNat]? = _
  rw [Int.toNat_natCast, List.getElem?_eq_getElem h]
theorem atI_last {xs : List Int} (h : xs ≠ []) : L2.atI xs (-1) = some (Pm.lastM xs) := by
  have hl : 0 < xs.length := List.length_pos_iff.mpr h
  unfold L2.atI ixN
  rw [if_neg (by omega), if_pos (by omega)]
  show xs[(-1 + (xs.length : Int)).toNat]? = _
  have e : (-1 + (xs.length : Int)).toNat = xs.length - 1 := by omega
  rw [e, List.getElem?_eq_getElem (by omega)]
  unfold Pm.lastM
  rw [Pm.getD_lt (by omega)]
@[simp] theorem t_lst {xs : List D} : tupleD st [.lst xs] = some (.tup xs) := id rfl
@[simp] theorem t_P : tupleD st [P a] = some (P a) := id rfl
@[simp] theorem l_P : listD st [P a] = some (a.map D.int) := id rfl
@[simp] theorem i_int : intOf st [.int i] = some (.int i) := id rfl
@[simp] theorem i_bl {k : Bool} : intOf st [.bl k] = some (.int (if k = true then 1 else 0)) := id rfl
end
/-! ### walks -/
def Walks (n : Nat) (fi : EI) (sd : Sl) (st st' : Sto) (L : List D) : Prop := ∃ it, fi sd st = .ok (it, n) st' ∧ L.length ≤ n ∧ ∀ s i, it s i = some L[i]?
section
variable {sd : Sl} {st st' : Sto} {f : EE} {fs : EA} {xs ys : List D}
theorem wk_seq {d : D} (h : f sd st = .ok d st') (hs : seqN d = some xs) : Walks xs.length (iSeq f) sd st st' xs := by
  refine ⟨fun _ i => some xs[i]?, ?_, Nat.le_refl _, fun _ _ => rfl⟩
  unfold iSeq
  rw [h]
  cases d <;> first | (cases hs; rfl) | cases hs
def rngL (lo c : Int) (n : Nat) : List D := (List.range n).map fun i : Nat => .int (lo + i * c)
theorem rngD_at (lo c : Int) (n : Nat) (s : Sto) (i : Nat) : rngD lo c n s i = some (rngL lo c n)[i]? := by
  unfold rngD rngL
  rw [List.getElem?_map]
  by_cases h : i < n
  · rw [if_pos h, List.getElem?_range h]; rfl
  · rw [if_neg h, List.getElem?_eq_none (by simpa using h)]; rfl
theorem wk_rng {k n : Nat} {ds : List D} {lo c : Int} (h : fs sd st = .ok ds st') (hl : ds.length = k) (hr : rngOf ds = some (lo, c, n)) : Walks n (iRngN k fs) sd st st' (rngL lo c n) := by
  refine ⟨rngD lo c n, ?_, by simp [rngL], fun s i => rngD_at lo c n s i⟩
  unfold iRngN
  rw [h]
  show (if ds.length = k then _ else _) = _
  rw [if_pos hl]
  show (match rngOf ds with
    | some (lo, c, n) => _
    | none => _) = _
  rw [hr]
def enuL (xs : List D) : List D := xs.zipIdx.map fun q => .tup [.int (q.2 : Nat), q.1]
theorem wk_enu {d : D} (h : f sd st = .ok d st') (hs : seqN d = some xs) : Walks xs.length (iEnu f) sd st st' (enuL xs) := by
  obtain ⟨it, h1, h2, h3⟩ := wk_seq (f := f) h hs
  refine ⟨enumD it, ?_, by simpa [enuL] using h2, fun s i => ?_⟩
  · unfold iEnu
    rw [h1]; rfl
  · unfold enumD enuL
    rw [h3, List.getElem?_map, List.getElem?_zipIdx]
    cases xs[i]? <;> simp
def zipL (xs ys : List D) : List D := (xs.zip ys).map fun q => .tup [q.1, q.2]
theorem wk_zip {a b : D} (h : fs sd st = .ok [a, b] st') (ht : isT a = isT b) (h1 : seqN a = some xs) (h2 : seqN b = some ys) : Walks xs.length (iZip2 fs) sd st st' (zipL xs ys) := by
  refine ⟨zipD xs ys, ?_, by simp [zipL]; omega, fun s i => ?_⟩
  · unfold iZip2
    rw [h]
    show (if isT a = isT b then match seqN a, seqN b with
      | some xs, some ys => Res.ok ((zipD xs ys, xs.length) : ItD × Nat) st'
      | _, _ => .stk
      else .stk) = _
    rw [if_pos ht, h1, h2]
  · unfold zipD zipL
    rw [List.getElem?_map, List.zip, List.getElem?_zipWith]
    cases xs[i]? <;> cases ys[i]? <;> rfl
/-- a for: what each turn does, until the end or a way out -/
theorem for_gen {fi : EI} {fg : D → SS} {b : SS} {L : List D} {n : Nat} (hw : Walks n fi sd st st' L) (R : SR → Prop) (Inv : Nat → Sl → Sto → Prop) (h0 : Inv 0 sd st')
    (hs : ∀ (i : Nat) (x : D) (sd : Sl) (st : Sto), L[i]? = some x → Inv i sd st → ∃ sd1 st1, fg x sd st = .go .nx sd1 st1 ∧ match b sd1 st1 with
      | .go .nx sd2 st2 => Inv (i + 1) sd2 st2
      | .go .cnt sd2 st2 => Inv (i + 1) sd2 st2
      | .go .brk sd2 st2 => R (.go .nx sd2 st2)
      | r => R r) (he : ∀ sd st, Inv L.length sd st → R (.go .nx sd st)) : R (sFor fi fg b sd st) := by
  obtain ⟨it, h1, h2, h3⟩ := hw
  unfold sFor
  rw [h1, rs_ok]
  have go : ∀ (m i : Nat) (sd : Sl) (st : Sto), i + m = n + 1 → i ≤ L.length → Inv i sd st → R (sForN it fg b m i sd st) := by
    intro m
    induction m with
    | zero => intro i sd st e hi; omega
    | succ m ih =>
      intro i sd st e hi hI
      show R (match it st i with
        | none => .stk
        | some none => .go .nx sd st
        | some (some d) => tgtG (fg d sd st) fun sd1 st1 => loopG (b sd1 st1) (sForN it fg b m (i + 1)))
      rw [h3]
      by_cases hl : i < L.length
      · rw [List.getElem?_eq_getElem hl]
        obtain ⟨sd1, st1, e1, e2⟩ := hs i L[i] sd st (List.getElem?_eq_getElem hl) hI
        show R (tgtG (fg L[i] sd st) fun sd1 st1 => loopG (b sd1 st1) (sForN it fg b m (i + 1)))
        rw [e1]
        show R (loopG (b sd1 st1) (sForN it fg b m (i + 1)))
        cases q : b sd1 st1 with
        | go fl sd2 st2 =>
          rw [q] at e2
          cases fl with
          | nx => exact ih (i + 1) sd2 st2 (by omega) hl e2
          | cnt => exact ih (i + 1) sd2 st2 (by omega) hl e2
          | brk => exact e2
          | ret d => exact e2
        | ex c sd2 st2 => rw [q] at e2; exact e2
        | stk => rw [q] at e2; exact e2
      · rw [List.getElem?_eq_none (by omega)]
        have : i = L.length := by omega
        subst this
        exact he sd st hI
  exact go (n + 1) 0 sd st' (by omega) (Nat.zero_le _) h0
/-- a for without ways out -/
theorem for_run {fi : EI} {fg : D → SS} {b : SS} {L : List D} {n : Nat} (hw : Walks n fi sd st st' L) (Inv : Nat → Sl → Sto → Prop) (h0 : Inv 0 sd st')
    (hs : ∀ (i : Nat) (x : D) (sd : Sl) (st : Sto), L[i]? = some x → Inv i sd st → ∃ sd1 st1 sd2 st2, fg x sd st = .go .nx sd1 st1 ∧ b sd1 st1 = .go .nx sd2 st2 ∧ Inv (i + 1) sd2 st2) : ∃ sd2 st2, sFor fi fg b sd st = .go .nx sd2 st2 ∧ Inv L.length sd2 st2 :=
  for_gen hw (fun r => ∃ sd2 st2, r = .go .nx sd2 st2 ∧ Inv L.length sd2 st2) Inv h0 (fun i x sd st hx hI => by
    obtain ⟨sd1, st1, sd2, st2, e1, e2, e3⟩ := hs i x sd st hx hI
    exact ⟨sd1, st1, e1, by rw [e2]; exact e3⟩) fun sd st hI => ⟨sd, st, rfl, hI⟩
/-- a while: Inv with a number that falls -/
theorem while_gen {c : ET} {b : SS} (R : SR → Prop) (Inv : Nat → Sl → Sto → Prop) (hs : ∀ n sd st, Inv n sd st → (∃ st1, c sd st = .ok false st1 ∧ R (.go .nx sd st1)) ∨ ∃ st1, c sd st = .ok true st1 ∧ match b sd st1 with
      | .go .nx sd2 st2 => ∃ m, m < n ∧ Inv m sd2 st2
      | .go .cnt sd2 st2 => ∃ m, m < n ∧ Inv m sd2 st2
      | .go .brk sd2 st2 => R (.go .nx sd2 st2)
      | r => R r) : ∀ (k n : Nat) (sd : Sl) (st : Sto), n < k → Inv n sd st → R (sLoop c b k sd st)
  | 0, _, _, _, h, _ => absurd h (Nat.not_lt_zero _)
  | k + 1, n, sd, st, h, hI => by
    show R ((c sd st).toS sd fun x st1 => if x = true then loopG (b sd st1) (sLoop c b k) else .go .nx sd st1)
    rcases hs n sd st hI with ⟨st1, e, r⟩ | ⟨st1, e, r⟩
    · rw [e]; exact r
    · rw [e]
      show R (loopG (b sd st1) (sLoop c b k))
      cases q : b sd st1 with
      | go fl sd2 st2 =>
        rw [q] at r
        cases fl with
        | nx => obtain ⟨m, hm, r⟩ := r; exact while_gen R Inv hs k m sd2 st2 (by omega) r
        | cnt => obtain ⟨m, hm, r⟩ := r; exact while_gen R Inv hs k m sd2 st2 (by omega) r
        | brk => exact r
        | ret d => exact r
      | ex c sd2 st2 => rw [q] at r; exact r
      | stk => rw [q] at r; exact r
theorem while_run {c : ET} {b : SS} {k n : Nat} (Inv : Nat → Sl → Sto → Prop) (Q : Sl → Sto → Prop) (hk : n < k) (h0 : Inv n sd st) (hs : ∀ n sd st, Inv n sd st → (c sd st = .ok false st ∧ Q sd st) ∨ (c sd st = .ok true st ∧ ∃ m sd2 st2, b sd st = .go .nx sd2 st2 ∧ m < n ∧ Inv m sd2 st2)) :
    ∃ sd2 st2, sLoop c b k sd st = .go .nx sd2 st2 ∧ Q sd2 st2 :=
  while_gen (fun r => ∃ sd2 st2, r = .go .nx sd2 st2 ∧ Q sd2 st2) Inv (fun n sd st hI => by
    rcases hs n sd st hI with ⟨e, q⟩ | ⟨e, m, sd2, st2, e2, hm, hI2⟩
    · exact .inl ⟨st, e, sd, st, rfl, q⟩
    · exact .inr ⟨st, e, by rw [e2]; exact ⟨m, hm, hI2⟩⟩) k n sd st hk h0
/-- a comprehension; the walk is told where Inv stands -/
theorem lc_core {fi : EI} {fg : D → SS} {ft : ET} {fe : EE} {vs : List Nat} {L : List D} {n : Nat} {it : ItD} (h1 : fi sd st = .ok (it, n) st') (h2 : L.length ≤ n) (hlt : n < lineN) (Inv : Nat → List D → Sto → Prop) (h3 : ∀ i acc s, Inv i acc s → it s i = some L[i]?) (h0 : Inv 0 [] st')
    (hs : ∀ (i : Nat) (x : D) (acc : List D) (st : Sto), L[i]? = some x → Inv i acc st → ∃ sd1, fg x (wipeD sd vs) st = .go .nx sd1 st ∧ ((∃ st1 st2 y, ft sd1 st = .ok true st1 ∧ fe sd1 st1 = .ok y st2 ∧ Inv (i + 1) (acc ++ [y]) st2) ∨ ∃ st1, ft sd1 st = .ok false st1 ∧ Inv (i + 1) acc st1)) :
    ∃ ys st2, fLc fi fg ft fe vs sd st = .ok ys st2 ∧ Inv L.length ys st2 := by
  have hl := hlt
  unfold fLc
  rw [h1]
  show ∃ ys st2, (if n < lineN then lcN it fg ft fe (n + 1) 0 (wipeD sd vs) st' else .stk) = .ok ys st2 ∧ _
  rw [if_pos hl]
  have go : ∀ (m i : Nat) (acc : List D) (st : Sto), i + m = n + 1 → i ≤ L.length → Inv i acc st → ∃ ys st2, lcN it fg ft fe m i (wipeD sd vs) st = .ok ys st2 ∧ Inv L.length (acc ++ ys) st2 := by
    intro m
    induction m with
    | zero => intro i acc st e hi; omega
    | succ m ih =>
      intro i acc st e hi hI
      show ∃ ys st2, (match it st i with
        | none => Res.stk
        | some none => .ok [] st
        | some (some d) => match fg d (wipeD sd vs) st with
          | .go .nx sd1 st1 => (ft sd1 st1).noex.bind fun x st2 => if x = true then (fe sd1 st2).noex.bind fun y st3 => (lcN it fg ft fe m (i + 1) (wipeD sd vs) st3).bind fun ys st4 => .ok (y :: ys) st4 else lcN it fg ft fe m (i + 1) (wipeD sd vs) st2
          | _ => .stk) = .ok ys st2 ∧ Inv L.length (acc ++ ys) st2
      rw [h3 i acc st hI]
      by_cases hl : i < L.length
      · rw [List.getElem?_eq_getElem hl]
        obtain ⟨sd1, e1, e2⟩ := hs i L[i] acc st (List.getElem?_eq_getElem hl) hI
        show ∃ ys st2, (match fg L[i] (wipeD sd vs) st with
          | .go .nx sd1 st1 => (ft sd1 st1).noex.bind fun x st2 => if x = true then (fe sd1 st2).noex.bind fun y st3 => (lcN it fg ft fe m (i + 1) (wipeD sd vs) st3).bind fun ys st4 => Res.ok (y :: ys) st4 else lcN it fg ft fe m (i + 1) (wipeD sd vs) st2
          | _ => .stk) = .ok ys st2 ∧ Inv L.length (acc ++ ys) st2
        rw [e1]
        show ∃ ys st2, ((ft sd1 st).noex.bind fun x st2 => if x = true then (fe sd1 st2).noex.bind fun y st3 => (lcN it fg ft fe m (i + 1) (wipeD sd vs) st3).bind fun ys st4 => Res.ok (y :: ys) st4 else lcN it fg ft fe m (i + 1) (wipeD sd vs) st2) = .ok ys st2 ∧ Inv L.length (acc ++ ys) st2
        rcases e2 with ⟨st1, st2, y, q1, q2, q3⟩ | ⟨st1, q1, q3⟩
        · obtain ⟨ys, st3, r1, r2⟩ := ih (i + 1) (acc ++ [y]) st2 (by omega) hl q3
          refine ⟨y :: ys, st3, ?_, by rw [List.append_assoc] at r2; exact r2⟩
          rw [q1, rn_ok, rb_ok, if_pos rfl, q2, rn_ok, rb_ok, r1, rb_ok]
        · obtain ⟨ys, st3, r1, r2⟩ := ih (i + 1) acc st1 (by omega) hl q3
          refine ⟨ys, st3, ?_, r2⟩
          rw [q1, rn_ok, rb_ok, if_neg Bool.false_ne_true, r1]
      · rw [List.getElem?_eq_none (by omega)]
        have : i = L.length := by omega
        subst this
        exact ⟨[], st, rfl, by rw [List.append_nil]; exact hI⟩
  exact go (n + 1) 0 [] st' (by omega) (Nat.zero_le _) h0
/-- a comprehension -/
theorem lc_gen {fi : EI} {fg : D → SS} {ft : ET} {fe : EE} {vs : List Nat} {L : List D} {n : Nat} (hw : Walks n fi sd st st' L) (hlt : n < lineN) (Inv : Nat → List D → Sto → Prop) (h0 : Inv 0 [] st')
    (hs : ∀ (i : Nat) (x : D) (acc : List D) (st : Sto), L[i]? = some x → Inv i acc st → ∃ sd1, fg x (wipeD sd vs) st = .go .nx sd1 st ∧ ((∃ st1 st2 y, ft sd1 st = .ok true st1 ∧ fe sd1 st1 = .ok y st2 ∧ Inv (i + 1) (acc ++ [y]) st2) ∨ ∃ st1, ft sd1 st = .ok false st1 ∧ Inv (i + 1) acc st1)) :
    ∃ ys st2, fLc fi fg ft fe vs sd st = .ok ys st2 ∧ Inv L.length ys st2 := by
  obtain ⟨it, h1, h2, h3⟩ := hw
  exact lc_core h1 h2 hlt Inv (fun i _ s _ => h3 s i) h0 hs
/-- .. that changes nothing: item by item -/
theorem lc_pure {fi : EI} {fg : D → SS} {ft : ET} {fe : EE} {vs : List Nat} {L : List D} {n : Nat} (hw : Walks n fi sd st st' L) (hlt : n < lineN) (o : D → Option D)
    (hs : ∀ (i : Nat) (x : D), L[i]? = some x → ∃ sd1, fg x (wipeD sd vs) st' = .go .nx sd1 st' ∧ ((∃ y, ft sd1 st' = .ok true st' ∧ fe sd1 st' = .ok y st' ∧ o x = some y) ∨ (ft sd1 st' = .ok false st' ∧ o x = none))) :
    fLc fi fg ft fe vs sd st = .ok (L.filterMap o) st' := by
  obtain ⟨ys, st2, e, h1, h2⟩ := lc_gen (fg := fg) (ft := ft) (fe := fe) (vs := vs) hw hlt (fun i acc s => s = st' ∧ acc = (L.take i).filterMap o) ⟨rfl, by simp⟩ (fun i x acc s hx hI => by
    obtain ⟨rfl, rfl⟩ := hI
    obtain ⟨sd1, e1, e2⟩ := hs i x hx
    have et : L.take (i + 1) = L.take i ++ [x] := by
      rw [List.take_add_one, hx]; rfl
    refine ⟨sd1, e1, ?_⟩
    rcases e2 with ⟨y, q1, q2, q3⟩ | ⟨q1, q3⟩
    · exact .inl ⟨_, _, y, q1, q2, rfl, by rw [et, List.filterMap_append]; simp [q3]⟩
    · exact .inr ⟨_, q1, rfl, by rw [et, List.filterMap_append]; simp [q3]⟩)
  rw [e, h1, h2, List.take_length]
theorem lc_map {fi : EI} {fg : D → SS} {fe : EE} {vs : List Nat} {L : List D} {n : Nat} (hw : Walks n fi sd st st' L) (hlt : n < lineN) (o : D → D)
    (hs : ∀ (i : Nat) (x : D), L[i]? = some x → ∃ sd1, fg x (wipeD sd vs) st' = .go .nx sd1 st' ∧ fe sd1 st' = .ok (o x) st') : fLc fi fg eYes fe vs sd st = .ok (L.map o) st' := by
  rw [lc_pure hw hlt (fun x => some (o x)) (fun i x hx => by
    obtain ⟨sd1, e1, e2⟩ := hs i x hx
    exact ⟨sd1, e1, .inl ⟨_, rfl, e2, rfl⟩⟩)]
  rw [show (fun x => some (o x)) = some ∘ o from rfl, List.filterMap_eq_map]
/-- .. over a list that may change, and does not -/
theorem lc_mapH {f : EE} {fg : D → SS} {fe : EE} {vs : List Nat} {L : List D} {h : Nat} (hf : f sd st = .ok (.hnd h) st') (hc : cellAt st' h = some L) (hlt : L.length < lineN) (o : D → D)
    (hs : ∀ (i : Nat) (x : D), L[i]? = some x → ∃ sd1, fg x (wipeD sd vs) st' = .go .nx sd1 st' ∧ fe sd1 st' = .ok (o x) st') : fLc (iSeq f) fg eYes fe vs sd st = .ok (L.map o) st' := by
  have h1 : iSeq f sd st = .ok (fun s i => (cellAt s h).map fun ys => ys[i]?, L.length) st' := by
    unfold iSeq
    rw [hf]
    show (match cellAt st' h with
      | some xs => _
      | none => _) = _
    rw [hc]
  obtain ⟨ys, st2, e, e1, e2⟩ := lc_core (L := L) (fg := fg) (ft := eYes) (fe := fe) (vs := vs) h1 (Nat.le_refl _) hlt (fun i acc s => s = st' ∧ acc = (L.take i).map o) (fun i acc s hI => by
    obtain ⟨rfl, _⟩ := hI
    show (cellAt s h).map _ = _
    rw [hc]; rfl) ⟨rfl, by simp⟩ (fun i x acc s hx hI => by
    obtain ⟨rfl, rfl⟩ := hI
    obtain ⟨sd1, q1, q2⟩ := hs i x hx
    have et : L.take (i + 1) = L.take i ++ [x] := by
      rw [List.take_add_one, hx]; rfl
    exact ⟨sd1, q1, .inl ⟨_, _, _, rfl, q2, rfl, by rw [et, List.map_append]; rfl⟩⟩)
  rw [e, e1, e2, List.take_length]
end

/-! ### a def's end -/
def retD : SR → Option D
  | .go (.ret d) _ _ => some d
  | _ => none
def nxD : SR → Option Unit
  | .go .nx _ _ => some ()
  | _ => none
def retB : SR → Option (D × List D)
  | .go (.ret d) _ (.lst ys :: _) => some (d, ys)
  | _ => none
@[simp] theorem retD_ret {d : D} {sd : Sl} {st : Sto} : retD (.go (.ret d) sd st) = some d := id rfl
@[simp] theorem nxD_nx {sd : Sl} {st : Sto} : nxD (.go .nx sd st) = some () := id rfl
@[simp] theorem retB_ret {d : D} {sd : Sl} {ys : List D} {r : Sto} : retB (.go (.ret d) sd (.lst ys :: r)) = some (d, ys) := id rfl
theorem fn_ret {nl : Nat} {body : SS} {ds : List D} {d : D} (h : retD (body (ds.map some ++ List.replicate nl none) []) = some d) (hn : d.noH = true) : fnD nl body [] ds = .ok d [] := by
  unfold fnD
  cases q : body (ds.map some ++ List.replicate nl none) [] with
  | go fl sd st' =>
    rw [q] at h
    cases fl with
    | ret x =>
      cases h
      show (if (d.noH && ((st' : Sto).take 0).all _) = true then Res.ok d ((st' : Sto).take 0) else Res.stk) = _
      rw [hn]; rfl
    | nx => cases h
    | brk => cases h
    | cnt => cases h
  | ex c sd st' => rw [q] at h; cases h
  | stk => rw [q] at h; cases h
theorem fn_nx {nl : Nat} {body : SS} {ds : List D} (h : nxD (body (ds.map some ++ List.replicate nl none) []) = some ()) : fnD nl body [] ds = .ok .non [] := by
  unfold fnD
  cases q : body (ds.map some ++ List.replicate nl none) [] with
  | go fl sd st' =>
    rw [q] at h
    cases fl with
    | nx => rfl
    | ret x => cases h
    | brk => cases h
    | cnt => cases h
  | ex c sd st' => rw [q] at h; cases h
  | stk => rw [q] at h; cases h
theorem fn_ret1 {nl : Nat} {body : SS} {ds xs ys : List D} {d : D} (h : retB (body (ds.map some ++ List.replicate nl none) [.lst xs]) = some (d, ys)) (hn : d.noH = true) (hy : D.noHs ys = true) : fnD nl body [.lst xs] ds = .ok d [.lst ys] := by
  unfold fnD
  cases q : body (ds.map some ++ List.replicate nl none) [.lst xs] with
  | go fl sd st' =>
    rw [q] at h
    cases fl with
    | ret x =>
      cases st' with
      | nil => cases h
      | cons c r =>
        cases c with
        | dead => cases h
        | lst zs =>
          cases h
          show (if (d.noH && ((Cell.lst ys :: r).take 1).all _) = true then Res.ok d ((Cell.lst ys :: r).take 1) else Res.stk) = _
          show (if (d.noH && (D.noHs ys && true)) = true then Res.ok d [.lst ys] else Res.stk) = _
          rw [hn, hy]; rfl
    | nx => cases h
    | brk => cases h
    | cnt => cases h
  | ex c sd st' => rw [q] at h; cases h
  | stk => rw [q] at h; cases h
/-! ### lists that change -/
section
variable {st st1 st2 st3 : Sto} {sd : Sl} {h : Nat} {xs : List D} {ns : List Int} {i : Int} {f fe fo fi : EE}
@[simp] theorem ca_zero {r : Sto} : cellAt (.lst xs :: r) 0 = some xs := id rfl
@[simp] theorem ca_one {c : Cell} {r : Sto} : cellAt (c :: .lst xs :: r) 1 = some xs := id rfl
@[simp] theorem ca_two {c c2 : Cell} {r : Sto} : cellAt (c :: c2 :: .lst xs :: r) 2 = some xs := id rfl
@[simp] theorem sq_hnd : seqOf st (.hnd h) = cellAt st h := id rfl
@[simp] theorem lh_hnd : lstH st (.hnd h) = cellAt st h := id rfl
@[simp] theorem lo_hnd : lstOf st (.hnd h) = cellAt st h := id rfl
@[simp] theorem ix_hnd : ixD st (.hnd h) (.int i) = (cellAt st h).bind fun xs => L2.atI xs i := id rfl
@[simp] theorem ln_hnd : lenD st [.hnd h] = (cellAt st h).map fun xs => .int xs.length := id rfl
@[simp] theorem tp_hnd : tupleD st [.hnd h] = (cellAt st h).map D.tup := id rfl
@[simp] theorem li_hnd : listD st [.hnd h] = cellAt st h := id rfl
theorem py_hnd (hs : cellAt st h = some (ns.map D.int)) : pyH st (.hnd h) = some (.list (ns.map PyData.int)) := by
  show (match cellAt st h with
    | some xs => (pyDs xs).map PyData.list
    | none => none) = _
  rw [hs]
  show (pyDs (ns.map D.int)).map PyData.list = _
  rw [pyDs_ints]; rfl
theorem py_lst (ns : List Int) : pyH st (.lst (ns.map D.int)) = some (.list (ns.map PyData.int)) := by
  show (pyDs (ns.map D.int)).map PyData.list = _
  rw [pyDs_ints]; rfl
theorem o_neH (hs : cellAt st h = some (ns.map D.int)) : neD st (.hnd h) (.lst []) = some (.bl (!decide (ns = []))) := by
  unfold neD
  rw [eqB_L (ys := []) (py_hnd hs) rfl]
  rfl
theorem sv_pop (e : f sd st = .ok (.hnd h) st1) (hs : cellAt st1 h = some xs) {y : D} (hy : xs[xs.length - 1]? = some y) : ePop f sd st = .ok y (st1.set h (.lst xs.dropLast)) := by
  unfold ePop
  rw [e, rb_ok]
  show (match (cellAt st1 h).map (fun xs => (h, xs)) with
    | some (i, xs) => match xs[xs.length - 1]? with
      | some y => Res.ok y (st1.set i (.lst xs.dropLast))
      | none => .stk
    | none => .stk) = _
  rw [hs]
  show (match xs[xs.length - 1]? with
    | some y => Res.ok y (st1.set h (.lst xs.dropLast))
    | none => .stk) = _
  rw [hy]
theorem sv_app (e : fo sd st = .ok (.hnd h) st1) {zs : List D} (hs : cellAt st1 h = some zs) {y : D} (e2 : fe sd st1 = .ok y st2) (hs2 : cellAt st2 h = some xs) (hl : xs.length < lineN) : eApp fo fe sd st = .ok .non (st2.set h (.lst (xs ++ [y]))) := by
  unfold eApp
  rw [e, rb_ok]
  show (match (cellAt st1 h).map (fun xs => (h, xs)) with
    | some _ => (fe sd st1).bind _
    | none => Res.stk) = _
  rw [hs]
  show (fe sd st1).bind _ = _
  rw [e2, rb_ok]
  show (match (cellAt st2 h).map (fun xs => (h, xs)) with
    | some (i, xs) => if xs.length < lineN then Res.ok D.non (st2.set i (.lst (xs ++ [y]))) else .stk
    | none => .stk) = _
  rw [hs2]
  show (if xs.length < lineN then Res.ok D.non (st2.set h (.lst (xs ++ [y]))) else .stk) = _
  rw [if_pos hl]
theorem sv_put {y : D} {k : Int} {j : Nat} (e1 : fe sd st = .ok y st1) (e2 : fo sd st1 = .ok (.hnd h) st2) (e3 : fi sd st2 = .ok (.int k) st3) (hs : cellAt st3 h = some xs) (hk : ixN xs.length k = some j) : sPut fe fo fi sd st = .go .nx sd (st3.set h (.lst (xs.set j y))) := by
  unfold sPut
  rw [e1, rs_ok, e2, rs_ok, e3, rs_ok]
  show (match (cellAt st3 h).map (fun xs => (h, xs)), D.int k with
    | some (h, xs), .int k => match ixN xs.length k with
      | some j => SR.go .nx sd (st3.set h (.lst (xs.set j y)))
      | none => .stk
    | _, _ => .stk) = _
  rw [hs]
  show (match ixN xs.length k with
    | some j => SR.go .nx sd (st3.set h (.lst (xs.set j y)))
    | none => .stk) = _
  rw [hk]
theorem ixN_nat {n j : Nat} {k : Int} (hk : k = (j : Int)) (h : j < n) : ixN n k = some j := by
  subst hk
  unfold ixN
  rw [if_pos (by omega), if_pos (by omega), Int.toNat_natCast]
end
end DS
namespace Gn
open PySem PySem.Spec PyProof.Rows L2 DS

def top (i : Nat) : Stmt := PySem.Challenge.pw_slopewords_k00_whole_polynomials.main.body.getD i (.Pass ⟨0, 0, 0, 0⟩)
def c_PRIMES : D := .tup [.int 2, .int 3, .int 5, .int 7]
def c_MAX_POWER : D := .int 60
def c_MOST_FIGURES : D := .int 1000000000000000000000000000000000000000000000000000000000000
def N_is_whole : List Str := ["value"]
def P_is_whole : List Str := ["value"]
abbrev S_is_whole : Scope := defScope (top 9)
def n_is_whole : SS := (sRet (eAndV (eCB isiD (aCons (eVar 0) (aCons (eC (.ty "int")) aNil))) (eNotV (eCB isiD (aCons (eVar 0) (aCons (eC (.ty "bool")) aNil))))))
def f_is_whole : FF := fnD 0 n_is_whole
def N_undone_number : List Str := ["prime", "number", "found", "square", "left"]
def P_undone_number : List Str := ["prime", "number"]
abbrev S_undone_number : Scope := defScope (top 15)
def t_undone_number_1 : ET := (eTest (eOp (ints2 fun i j => some (.bl (decide (j < i)))) (eVar 4) (eC (.int 0))))
def y_undone_number_1 : SS := (sSeq (sSet 2 (eIf (eTest (eOp eqD (eOp (ints2 modI) (eVar 4) (eC (.int 2))) (eC (.int 1)))) (eOp (ints2 modI) (eOp mulD (eVar 2) (eVar 3)) (eVar 0)) (eVar 2))) (sPar2 3 4 (aCons (eOp (ints2 modI) (eOp mulD (eVar 3) (eVar 3)) (eVar 0)) (aCons (eOp (ints2 divI) (eVar 4) (eC (.int 2))) aNil))))
def w_undone_number_1 : SS := (sLoop t_undone_number_1 y_undone_number_1 100000)
def n_undone_number : SS := (sSeq (sPar3 2 3 4 (aCons (eC (.int 1)) (aCons (eOp (ints2 modI) (eVar 1) (eVar 0)) (aCons (eOp (ints2 fun i j => some (.int (i - j))) (eVar 0) (eC (.int 2))) aNil)))) (sSeq w_undone_number_1 (sRet (eVar 2))))
def f_undone_number : FF := fnD 3 n_undone_number
def N_trimmed : List Str := ["prime", "numbers", "found", "number"]
def P_trimmed : List Str := ["prime", "numbers"]
abbrev S_trimmed : Scope := defScope (top 18)
def e_trimmed_1 : EE := (eOp (ints2 modI) (eVar 3) (eVar 0))
def q_trimmed_1 : EA := (fLc (iSeq (eVar 1)) (gNameD 3) eYes e_trimmed_1 [3])
def t_trimmed_1 : ET := (eAnd (eTest (eOp neD (eVar 2) (eFz (fLst aNil)))) (eTest (eOp eqD (eOp ixD (eVar 2) (eUn negD (eC (.int 1)))) (eC (.int 0)))))
def y_trimmed_1 : SS := (sDrop (ePop (eVar 2)))
def w_trimmed_1 : SS := (sLoop t_trimmed_1 y_trimmed_1 100000)
def n_trimmed : SS := (sSeq (sSet 2 (eHnd q_trimmed_1)) (sSeq w_trimmed_1 (sRet (eCB tupleD (aCons (eVar 2) aNil)))))
def f_trimmed : FF := fnD 2 n_trimmed
def N_number_at : List Str := ["poly", "place"]
def P_number_at : List Str := ["poly", "place"]
abbrev S_number_at : Scope := defScope (top 20)
def n_number_at : SS := (sRet (eIf (eTest (eOp (ints2 fun i j => some (.bl (decide (i < j)))) (eVar 1) (eCB lenD (aCons (eVar 0) aNil)))) (eOp ixD (eVar 0) (eVar 1)) (eC (.int 0))))
def f_number_at : FF := fnD 0 n_number_at
def N_value_in : List Str := ["prime", "one", "number", "found", "entry"]
def P_value_in : List Str := ["prime", "one", "number"]
abbrev S_value_in : Scope := defScope (top 29)
def y_value_in_1 : SS := (sSet 3 (eOp (ints2 modI) (eOp addD (eOp mulD (eVar 3) (eVar 2)) (eVar 4)) (eVar 0)))
def w_value_in_1 : SS := (sFor (iSeq (eRevT (eVar 1))) (gNameD 4) y_value_in_1)
def n_value_in : SS := (sSeq (sSet 3 (eC (.int 0))) (sSeq w_value_in_1 (sRet (eVar 3))))
def f_value_in : FF := fnD 2 n_value_in
def N__law_bag : List Str := ["script", "spot", "cell", "great", "mixed"]
def P__law_bag : List Str := ["script", "spot"]
abbrev S__law_bag : Scope := defScope (top 41)
def n__law_bag : SS := (sSeq (sSet 2 (eIf (eTest (eOp (ints2 fun i j => some (.bl (decide (i < j)))) (eVar 1) (eCB lenD (aCons (eVar 0) aNil)))) (eOp ixD (eVar 0) (eVar 1)) (eOp addD (eOp mulD (eC (.int 127)) (eVar 1)) (eC (.int 61))))) (sSeq (sSet 3 (eOp (ints2 modI) (eCB intOf (aCons (eCB absD (aCons (eVar 2) aNil)) aNil)) (eOp mulD (eOp (ints2 powI) (eC (.int 10)) (eC (.int 59))) (eOp (ints2 powI) (eC (.int 10)) (eC (.int 60)))))) (sSeq (sSet 4 (eOp addD (eOp addD (eOp addD (eOp mulD (eOp (ints2 modI) (eVar 3) (eC (.int 1152921504606846883))) (eC (.int 83))) (eOp mulD (eC (.int 1009)) (eVar 1))) (eOp mulD (eC (.int 47)) (eCB intOf (aCons (eOp (ints2 fun i j => some (.bl (decide (i < j)))) (eVar 2) (eC (.int 0))) aNil)))) (eC (.int 29)))) (sRet (eHnd (fLst (aCons (eCB max2D (aCons (eC (.int 0)) (aCons (eOp (ints2 fun i j => some (.int (i - j))) (eVar 3) (eOp (ints2 powI) (eC (.int 10)) (eC (.int 17)))) aNil))) (aCons (eOp (ints2 modI) (eCB intOf (aCons (eVar 4) aNil)) (eC (.int 2305843009213693951))) (aCons (eC (.int 0)) aNil)))))))))
def f__law_bag : FL := fnL 3 n__law_bag
def N__law_grab : List Str := ["bag", "total", "one", "two", "found"]
def P__law_grab : List Str := ["bag", "total"]
abbrev S__law_grab : Scope := defScope (top 42)
def n__law_grab : SS := (sSeq (sIf (eTest (eOp (ints2 fun i j => some (.bl (decide (j < i)))) (eOp ixD (eVar 0) (eC (.int 0))) (eC (.int 0)))) (sSeq (sSet 4 (eOp (ints2 modI) (eCB intOf (aCons (eOp ixD (eVar 0) (eC (.int 0))) aNil)) (eVar 1))) (sSeq (sPut (eOp (ints2 divI) (eOp ixD (eVar 0) (eC (.int 0))) (eVar 1)) (eVar 0) (eC (.int 0))) (sRet (eVar 4)))) sNext) (sSeq (sPut (eOp addD (eOp ixD (eVar 0) (eC (.int 2))) (eC (.int 1))) (eVar 0) (eC (.int 2))) (sSeq (sSet 2 (eOp (ints2 modI) (eCB intOf (aCons (eOp addD (eOp ixD (eVar 0) (eC (.int 1))) (eOp mulD (eC (.int 67867979)) (eOp ixD (eVar 0) (eC (.int 2))))) aNil)) (eC (.int 2305843009213693951)))) (sSeq (sSet 3 (eOp addD (eOp mulD (eOp (ints2 modI) (eCB intOf (aCons (eOp addD (eOp mulD (eVar 2) (eVar 2)) (eOp mulD (eC (.int 101)) (eOp ixD (eVar 0) (eC (.int 2))))) aNil)) (eC (.int 2305843009213693921))) (eC (.int 4256233))) (eVar 2))) (sRet (eOp (ints2 modI) (eCB intOf (aCons (eOp (ints2 divI) (eVar 3) (eC (.int 65537))) aNil)) (eVar 1)))))))
def f__law_grab : FF := fnD 3 n__law_grab
def N__law_po_cut : List Str := ["numbers", "many", "at"]
def P__law_po_cut : List Str := ["numbers"]
abbrev S__law_po_cut : Scope := defScope (top 45)
def t__law_po_cut_1 : ET := (eAnd (eTest (eOp (ints2 fun i j => some (.bl (decide (j < i)))) (eVar 1) (eC (.int 0)))) (eTest (eOp eqD (eOp ixD (eVar 0) (eOp (ints2 fun i j => some (.int (i - j))) (eVar 1) (eC (.int 1)))) (eC (.int 0)))))
def y__law_po_cut_1 : SS := (sSet 1 (eOp (ints2 fun i j => some (.int (i - j))) (eVar 1) (eC (.int 1))))
def w__law_po_cut_1 : SS := (sLoop t__law_po_cut_1 y__law_po_cut_1 100000)
def e__law_po_cut_1 : EE := (eOp ixD (eVar 0) (eVar 2))
def q__law_po_cut_1 : EA := (fLc (iRngN 1 (aCons (eVar 1) aNil)) (gNameD 2) eYes e__law_po_cut_1 [2])
def n__law_po_cut : SS := (sSeq (sSet 1 (eCB lenD (aCons (eVar 0) aNil))) (sSeq w__law_po_cut_1 (sRet (eCB tupleD (aCons (eFz q__law_po_cut_1) aNil)))))
def f__law_po_cut : FF := fnD 2 n__law_po_cut
def N__law_po_inverse : List Str := ["prime", "number", "entry"]
def P__law_po_inverse : List Str := ["prime", "number"]
abbrev S__law_po_inverse : Scope := defScope (top 49)
def e__law_po_inverse_1 : EE := (eVar 2)
def t__law_po_inverse_1 : ET := (eTest (eOp eqD (eOp (ints2 modI) (eCB intOf (aCons (eOp mulD (eVar 2) (eVar 1)) aNil)) (eVar 0)) (eC (.int 1))))
def q__law_po_inverse_1 : EA := (fLc (iRngN 2 (aCons (eC (.int 1)) (aCons (eVar 0) aNil))) (gNameD 2) t__law_po_inverse_1 e__law_po_inverse_1 [2])
def n__law_po_inverse : SS := (sRet (eOp ixD (eFz q__law_po_inverse_1) (eC (.int 0))))
def f__law_po_inverse : FF := fnD 1 n__law_po_inverse
def N__law_po_at : List Str := ["prime", "poly", "number", "found", "entry"]
def P__law_po_at : List Str := ["prime", "poly", "number"]
abbrev S__law_po_at : Scope := defScope (top 55)
def y__law_po_at_1 : SS := (sSet 3 (eOp (ints2 modI) (eCB intOf (aCons (eOp addD (eOp mulD (eVar 3) (eVar 2)) (eVar 4)) aNil)) (eVar 0)))
def w__law_po_at_1 : SS := (sFor (iSeq (eRevT (eVar 1))) (gNameD 4) y__law_po_at_1)
def n__law_po_at : SS := (sSeq (sSet 3 (eC (.int 0))) (sSeq w__law_po_at_1 (sRet (eVar 3))))
def f__law_po_at : FF := fnD 2 n__law_po_at
def N__law_is_poly_here : List Str := ["prime", "value", "one"]
def P__law_is_poly_here : List Str := ["prime", "value"]
abbrev S__law_is_poly_here : Scope := defScope (top 56)
def e__law_is_poly_here_1 : EE := (eVar 2)
def t__law_is_poly_here_1 : ET := (eOr (eTest (eCB isiD (aCons (eVar 2) (aCons (eC (.ty "bool")) aNil)))) (eNot (eTest (eCB isiD (aCons (eVar 2) (aCons (eC (.ty "int")) aNil))))))
def q__law_is_poly_here_1 : EA := (fLc (iSeq (eVar 1)) (gNameD 2) t__law_is_poly_here_1 e__law_is_poly_here_1 [2])
def e__law_is_poly_here_2 : EE := (eVar 2)
def t__law_is_poly_here_2 : ET := (eNot (eTest (eChain (ints2 fun i j => some (.bl (decide (i ≤ j)))) (ints2 fun i j => some (.bl (decide (i < j)))) (eC (.int 0)) (eVar 2) (eVar 0))))
def q__law_is_poly_here_2 : EA := (fLc (iSeq (eVar 1)) (gNameD 2) t__law_is_poly_here_2 e__law_is_poly_here_2 [2])
def n__law_is_poly_here : SS := (sSeq (sIf (eOr (eNot (eTest (eCB isiD (aCons (eVar 1) (aCons (eC (.ty "tuple")) aNil))))) (eTest (eOp (ints2 fun i j => some (.bl (decide (j < i)))) (eCB lenD (aCons (eVar 1) aNil)) (eC (.int 61))))) (sRet (eC (.bl false))) sNext) (sSeq (sIf (eTest (eOp neD (eFz q__law_is_poly_here_1) (eFz (fLst aNil)))) (sRet (eC (.bl false))) sNext) (sRet (eAndV (eOp eqD (eFz q__law_is_poly_here_2) (eFz (fLst aNil))) (eOp neD (eCutT (eVar 1) (oAt (eUn negD (eC (.int 1)))) oNo) (eTup (aCons (eC (.int 0)) aNil)))))))
def f__law_is_poly_here : FF := fnD 1 n__law_is_poly_here
def N_is_integer : List Str := ["value"]
def P_is_integer : List Str := ["value"]
abbrev S_is_integer : Scope := defScope (top 10)
def n_is_integer : SS := (sRet (eAndV (eCal 1 f_is_whole [] (aCons (eVar 0) aNil)) (eChain (ints2 fun i j => some (.bl (decide (i < j)))) (ints2 fun i j => some (.bl (decide (i < j)))) (eUn negD (eC c_MOST_FIGURES)) (eVar 0) (eC c_MOST_FIGURES))))
def f_is_integer : FF := fnD 0 n_is_integer
def N_is_within : List Str := ["value", "low", "high"]
def P_is_within : List Str := ["value", "low", "high"]
abbrev S_is_within : Scope := defScope (top 11)
def n_is_within : SS := (sRet (eAndV (eCal 1 f_is_whole [] (aCons (eVar 0) aNil)) (eChain (ints2 fun i j => some (.bl (decide (i ≤ j)))) (ints2 fun i j => some (.bl (decide (i ≤ j)))) (eVar 1) (eVar 0) (eVar 2))))
def f_is_within : FF := fnD 0 n_is_within
def N_require_prime : List Str := ["value"]
def P_require_prime : List Str := ["value"]
abbrev S_require_prime : Scope := defScope (top 14)
def n_require_prime : SS := (sIf (eOr (eNot (eTest (eCal 1 f_is_whole [] (aCons (eVar 0) aNil)))) (eTest (eOp (inD true) (eVar 0) (eC c_PRIMES)))) sStk sNext)
def f_require_prime : FF := fnD 0 n_require_prime
def N_plus_in : List Str := ["prime", "one", "other", "times", "size", "place"]
def P_plus_in : List Str := ["prime", "one", "other", "times"]
abbrev S_plus_in : Scope := defScope (top 19)
def e_plus_in_1 : EE := (eOp addD (eCal 2 f_number_at [] (aCons (eVar 1) (aCons (eVar 5) aNil))) (eOp mulD (eVar 3) (eCal 2 f_number_at [] (aCons (eVar 2) (aCons (eVar 5) aNil)))))
def q_plus_in_1 : EA := (fLc (iRngN 1 (aCons (eVar 4) aNil)) (gNameD 5) eYes e_plus_in_1 [5])
def n_plus_in : SS := (sSeq (sSet 4 (eCB max2D (aCons (eCB lenD (aCons (eVar 1) aNil)) (aCons (eCB lenD (aCons (eVar 2) aNil)) aNil)))) (sRet (eCal 2 f_trimmed [] (aCons (eVar 0) (aCons (eFz q_plus_in_1) aNil)))))
def f_plus_in : FF := fnD 2 n_plus_in
def N_times_in : List Str := ["prime", "one", "other", "found", "place", "first", "spot", "second"]
def P_times_in : List Str := ["prime", "one", "other"]
abbrev S_times_in : Scope := defScope (top 21)
def e_times_in_1 : EE := (eC (.int 0))
def q_times_in_1 : EA := (fLc (iRngN 1 (aCons (eOp (ints2 fun i j => some (.int (i - j))) (eOp addD (eCB lenD (aCons (eVar 1) aNil)) (eCB lenD (aCons (eVar 2) aNil))) (eC (.int 1))) aNil)) (gNameD 4) eYes e_times_in_1 [4])
def y_times_in_1 : SS := (sPut (eOp addD (eOp ixD (eVar 3) (eOp addD (eVar 4) (eVar 6))) (eOp mulD (eVar 5) (eVar 7))) (eVar 3) (eOp addD (eVar 4) (eVar 6)))
def w_times_in_1 : SS := (sFor (iEnu (eVar 2)) (gTupD (gNameD 6 :: gNameD 7 :: [])) y_times_in_1)
def y_times_in_2 : SS := (sIf (eTest (eOp neD (eVar 5) (eC (.int 0)))) w_times_in_1 sNext)
def w_times_in_2 : SS := (sFor (iEnu (eVar 1)) (gTupD (gNameD 4 :: gNameD 5 :: [])) y_times_in_2)
def n_times_in : SS := (sSeq (sIf (eOr (eTest (eOp eqD (eVar 1) (eTup aNil))) (eTest (eOp eqD (eVar 2) (eTup aNil)))) (sRet (eTup aNil)) sNext) (sSeq (sSet 3 (eHnd q_times_in_1)) (sSeq w_times_in_2 (sRet (eCal 2 f_trimmed [] (aCons (eVar 0) (aCons (eVar 3) aNil)))))))
def f_times_in : FF := fnD 5 n_times_in
def N_scaled_poly : List Str := ["prime", "one", "number", "entry"]
def P_scaled_poly : List Str := ["prime", "one", "number"]
abbrev S_scaled_poly : Scope := defScope (top 22)
def e_scaled_poly_1 : EE := (eOp mulD (eVar 2) (eVar 3))
def q_scaled_poly_1 : EA := (fLc (iSeq (eVar 1)) (gNameD 3) eYes e_scaled_poly_1 [3])
def n_scaled_poly : SS := (sRet (eCal 2 f_trimmed [] (aCons (eVar 0) (aCons (eFz q_scaled_poly_1) aNil))))
def f_scaled_poly : FF := fnD 1 n_scaled_poly
def N_divided_in : List Str := ["prime", "one", "other", "left", "found", "place", "size", "undone", "factor", "number", "spot"]
def P_divided_in : List Str := ["prime", "one", "other"]
abbrev S_divided_in : Scope := defScope (top 23)
def e_divided_in_1 : EE := (eVar 9)
def q_divided_in_1 : EA := (fLc (iSeq (eVar 1)) (gNameD 9) eYes e_divided_in_1 [9])
def e_divided_in_2 : EE := (eC (.int 0))
def q_divided_in_2 : EA := (fLc (iRngN 1 (aCons (eOp addD (eOp (ints2 fun i j => some (.int (i - j))) (eCB lenD (aCons (eVar 1) aNil)) (eVar 6)) (eC (.int 1))) aNil)) (gNameD 5) eYes e_divided_in_2 [5])
def y_divided_in_1 : SS := (sPut (eOp (ints2 modI) (eOp (ints2 fun i j => some (.int (i - j))) (eOp ixD (eVar 3) (eOp addD (eVar 5) (eVar 10))) (eOp mulD (eVar 8) (eVar 9))) (eVar 0)) (eVar 3) (eOp addD (eVar 5) (eVar 10)))
def w_divided_in_1 : SS := (sFor (iEnu (eVar 2)) (gTupD (gNameD 10 :: gNameD 9 :: [])) y_divided_in_1)
def y_divided_in_2 : SS := (sSeq (sSet 8 (eOp (ints2 modI) (eOp mulD (eOp ixD (eVar 3) (eOp (ints2 fun i j => some (.int (i - j))) (eOp addD (eVar 5) (eVar 6)) (eC (.int 1)))) (eVar 7)) (eVar 0))) (sSeq (sPut (eVar 8) (eVar 4) (eVar 5)) (sIf (eTest (eOp neD (eVar 8) (eC (.int 0)))) w_divided_in_1 sNext)))
def w_divided_in_2 : SS := (sFor (iRngN 3 (aCons (eOp (ints2 fun i j => some (.int (i - j))) (eCB lenD (aCons (eVar 1) aNil)) (eVar 6)) (aCons (eUn negD (eC (.int 1))) (aCons (eUn negD (eC (.int 1))) aNil)))) (gNameD 5) y_divided_in_2)
def n_divided_in : SS := (sSeq (sPar2 6 7 (aCons (eCB lenD (aCons (eVar 2) aNil)) (aCons (eCal 2 f_undone_number [] (aCons (eVar 0) (aCons (eOp ixD (eVar 2) (eUn negD (eC (.int 1)))) aNil))) aNil))) (sSeq (sSet 3 (eHnd q_divided_in_1)) (sSeq (sSet 4 (eHnd q_divided_in_2)) (sSeq w_divided_in_2 (sRet (eTup (aCons (eCal 2 f_trimmed [] (aCons (eVar 0) (aCons (eVar 4) aNil))) (aCons (eCal 2 f_trimmed [] (aCons (eVar 0) (aCons (eVar 3) aNil))) aNil))))))))
def f_divided_in : FF := fnD 8 n_divided_in
def N_slope_of_poly : List Str := ["prime", "one", "place", "number"]
def P_slope_of_poly : List Str := ["prime", "one"]
abbrev S_slope_of_poly : Scope := defScope (top 28)
def e_slope_of_poly_1 : EE := (eOp mulD (eVar 2) (eVar 3))
def q_slope_of_poly_1 : EA := (fLc (iEnu (eVar 1)) (gTupD (gNameD 2 :: gNameD 3 :: [])) eYes e_slope_of_poly_1 [2, 3])
def n_slope_of_poly : SS := (sRet (eCal 2 f_trimmed [] (aCons (eVar 0) (aCons (eFz (fCutL (eFz q_slope_of_poly_1) (oAt (eC (.int 1))) oNo)) aNil))))
def f_slope_of_poly : FF := fnD 2 n_slope_of_poly
def N__law_one_of : List Str := ["bag", "items"]
def P__law_one_of : List Str := ["bag", "items"]
abbrev S__law_one_of : Scope := defScope (top 43)
def n__law_one_of : SS := (sRet (eOp ixD (eVar 1) (eCalB 2 f__law_grab [] (aCons (eVar 0) (aCons (eCB lenD (aCons (eVar 1) aNil)) aNil)))))
def f__law_one_of : FF := fnD 0 n__law_one_of
def N__law_poly_drawn : List Str := ["bag", "prime", "most", "found", "turn"]
def P__law_poly_drawn : List Str := ["bag", "prime", "most"]
abbrev S__law_poly_drawn : Scope := defScope (top 44)
def e__law_poly_drawn_1 : EE := (eCalB 2 f__law_grab [] (aCons (eVar 0) (aCons (eVar 1) aNil)))
def q__law_poly_drawn_1 : EA := (fLc (iRngN 1 (aCons (eCalB 2 f__law_grab [] (aCons (eVar 0) (aCons (eOp addD (eVar 2) (eC (.int 2))) aNil))) aNil)) (gNameD 4) eYes e__law_poly_drawn_1 [4])
def t__law_poly_drawn_1 : ET := (eAnd (eTest (eOp neD (eVar 3) (eFz (fLst aNil)))) (eTest (eOp eqD (eOp ixD (eVar 3) (eUn negD (eC (.int 1)))) (eC (.int 0)))))
def y__law_poly_drawn_1 : SS := (sDrop (ePop (eVar 3)))
def w__law_poly_drawn_1 : SS := (sLoop t__law_poly_drawn_1 y__law_poly_drawn_1 100000)
def n__law_poly_drawn : SS := (sSeq (sSet 3 (eHnd q__law_poly_drawn_1)) (sSeq w__law_poly_drawn_1 (sRet (eCB tupleD (aCons (eVar 3) aNil)))))
def f__law_poly_drawn : FF := fnD 2 n__law_poly_drawn
def N__law_po_sum : List Str := ["prime", "one", "other", "often", "size", "left", "right", "a", "b"]
def P__law_po_sum : List Str := ["prime", "one", "other", "often"]
abbrev S__law_po_sum : Scope := defScope (top 46)
def e__law_po_sum_1 : EE := (eOp (ints2 modI) (eCB intOf (aCons (eOp addD (eVar 7) (eOp mulD (eVar 3) (eVar 8))) aNil)) (eVar 0))
def q__law_po_sum_1 : EA := (fLc (iZip2 (aCons (eVar 5) (aCons (eVar 6) aNil))) (gTupD (gNameD 7 :: gNameD 8 :: [])) eYes e__law_po_sum_1 [7, 8])
def n__law_po_sum : SS := (sSeq (sSet 4 (eCB max2D (aCons (eCB lenD (aCons (eVar 1) aNil)) (aCons (eCB lenD (aCons (eVar 2) aNil)) aNil)))) (sSeq (sPar2 5 6 (aCons (eFz (fOp fCat (eFz (fCB listD (aCons (eVar 1) aNil))) (eFz (fOp fRep (eFz (fLst (aCons (eC (.int 0)) aNil))) (eOp (ints2 fun i j => some (.int (i - j))) (eVar 4) (eCB lenD (aCons (eVar 1) aNil))))))) (aCons (eFz (fOp fCat (eFz (fCB listD (aCons (eVar 2) aNil))) (eFz (fOp fRep (eFz (fLst (aCons (eC (.int 0)) aNil))) (eOp (ints2 fun i j => some (.int (i - j))) (eVar 4) (eCB lenD (aCons (eVar 2) aNil))))))) aNil))) (sRet (eCal 1 f__law_po_cut [] (aCons (eFz q__law_po_sum_1) aNil)))))
def f__law_po_sum : FF := fnD 5 n__law_po_sum
def N__law_po_times : List Str := ["prime", "poly", "number", "entry"]
def P__law_po_times : List Str := ["prime", "poly", "number"]
abbrev S__law_po_times : Scope := defScope (top 47)
def e__law_po_times_1 : EE := (eOp (ints2 modI) (eCB intOf (aCons (eOp mulD (eVar 2) (eVar 3)) aNil)) (eVar 0))
def q__law_po_times_1 : EA := (fLc (iSeq (eVar 1)) (gNameD 3) eYes e__law_po_times_1 [3])
def n__law_po_times : SS := (sRet (eCal 1 f__law_po_cut [] (aCons (eFz q__law_po_times_1) aNil)))
def f__law_po_times : FF := fnD 1 n__law_po_times
def N__law_po_product : List Str := ["prime", "one", "other", "found", "at", "a", "to", "b", "entry"]
def P__law_po_product : List Str := ["prime", "one", "other"]
abbrev S__law_po_product : Scope := defScope (top 48)
def y__law_po_product_1 : SS := (sPut (eOp addD (eOp ixD (eVar 3) (eOp addD (eVar 4) (eVar 6))) (eOp mulD (eVar 5) (eVar 7))) (eVar 3) (eOp addD (eVar 4) (eVar 6)))
def w__law_po_product_1 : SS := (sFor (iEnu (eVar 2)) (gTupD (gNameD 6 :: gNameD 7 :: [])) y__law_po_product_1)
def y__law_po_product_2 : SS := (sIf (eTest (eOp neD (eVar 5) (eC (.int 0)))) w__law_po_product_1 sNext)
def w__law_po_product_2 : SS := (sFor (iEnu (eVar 1)) (gTupD (gNameD 4 :: gNameD 5 :: [])) y__law_po_product_2)
def e__law_po_product_1 : EE := (eOp (ints2 modI) (eCB intOf (aCons (eVar 8) aNil)) (eVar 0))
def q__law_po_product_1 : EA := (fLc (iSeq (eVar 3)) (gNameD 8) eYes e__law_po_product_1 [8])
def n__law_po_product : SS := (sSeq (sSet 3 (eHnd (fOp fRep (eFz (fLst (aCons (eC (.int 0)) aNil))) (eOp addD (eCB lenD (aCons (eVar 1) aNil)) (eCB lenD (aCons (eVar 2) aNil)))))) (sSeq w__law_po_product_2 (sRet (eCal 1 f__law_po_cut [] (aCons (eFz q__law_po_product_1) aNil)))))
def f__law_po_product : FF := fnD 6 n__law_po_product
def N__law_po_division : List Str := ["prime", "one", "other", "found", "head", "at", "rest", "size", "spot", "factor", "to", "b"]
def P__law_po_division : List Str := ["prime", "one", "other"]
abbrev S__law_po_division : Scope := defScope (top 50)
def y__law_po_division_1 : SS := (sPut (eOp (ints2 modI) (eCB intOf (aCons (eOp (ints2 fun i j => some (.int (i - j))) (eOp ixD (eVar 6) (eOp addD (eVar 8) (eVar 10))) (eOp mulD (eVar 9) (eVar 11))) aNil)) (eVar 0)) (eVar 6) (eOp addD (eVar 8) (eVar 10)))
def w__law_po_division_1 : SS := (sFor (iEnu (eVar 2)) (gTupD (gNameD 10 :: gNameD 11 :: [])) y__law_po_division_1)
def y__law_po_division_2 : SS := (sSeq (sSet 8 (eOp (ints2 fun i j => some (.int (i - j))) (eOp (ints2 fun i j => some (.int (i - j))) (eCB lenD (aCons (eVar 3) aNil)) (eC (.int 1))) (eVar 5))) (sSeq (sSet 9 (eOp (ints2 modI) (eCB intOf (aCons (eOp mulD (eOp ixD (eVar 6) (eOp (ints2 fun i j => some (.int (i - j))) (eOp addD (eVar 8) (eVar 7)) (eC (.int 1)))) (eVar 4)) aNil)) (eVar 0))) (sSeq (sPut (eVar 9) (eVar 3) (eVar 8)) (sIf (eTest (eOp neD (eVar 9) (eC (.int 0)))) w__law_po_division_1 sNext))))
def w__law_po_division_2 : SS := (sFor (iRngN 1 (aCons (eCB lenD (aCons (eVar 3) aNil)) aNil)) (gNameD 5) y__law_po_division_2)
def n__law_po_division : SS := (sSeq (sPar2 6 7 (aCons (eHnd (fCB listD (aCons (eVar 1) aNil))) (aCons (eCB lenD (aCons (eVar 2) aNil)) aNil))) (sSeq (sSet 3 (eHnd (fOp fRep (eFz (fLst (aCons (eC (.int 0)) aNil))) (eCB max2D (aCons (eC (.int 0)) (aCons (eOp addD (eOp (ints2 fun i j => some (.int (i - j))) (eCB lenD (aCons (eVar 6) aNil)) (eVar 7)) (eC (.int 1))) aNil)))))) (sSeq (sSet 4 (eCal 2 f__law_po_inverse [] (aCons (eVar 0) (aCons (eOp ixD (eVar 2) (eOp (ints2 fun i j => some (.int (i - j))) (eVar 7) (eC (.int 1)))) aNil)))) (sSeq w__law_po_division_2 (sRet (eTup (aCons (eCal 1 f__law_po_cut [] (aCons (eVar 3) aNil)) (aCons (eCal 1 f__law_po_cut [] (aCons (eVar 6) aNil)) aNil))))))))
def f__law_po_division : FF := fnD 9 n__law_po_division
def N__law_po_slope : List Str := ["prime", "poly", "at", "entry"]
def P__law_po_slope : List Str := ["prime", "poly"]
abbrev S__law_po_slope : Scope := defScope (top 53)
def e__law_po_slope_1 : EE := (eOp (ints2 modI) (eCB intOf (aCons (eOp mulD (eVar 2) (eVar 3)) aNil)) (eVar 0))
def q__law_po_slope_1 : EA := (fLc (iEnu (eVar 1)) (gTupD (gNameD 2 :: gNameD 3 :: [])) eYes e__law_po_slope_1 [2, 3])
def n__law_po_slope : SS := (sRet (eCal 1 f__law_po_cut [] (aCons (eFz (fCutL (eFz q__law_po_slope_1) (oAt (eC (.int 1))) oNo)) aNil)))
def f__law_po_slope : FF := fnD 2 n__law_po_slope
def N_require_within : List Str := ["value", "low", "high"]
def P_require_within : List Str := ["value", "low", "high"]
abbrev S_require_within : Scope := defScope (top 12)
def n_require_within : SS := (sIf (eNot (eTest (eCal 3 f_is_within [] (aCons (eVar 0) (aCons (eVar 1) (aCons (eVar 2) aNil)))))) sStk sNext)
def f_require_within : FF := fnD 0 n_require_within
def N_require_integer : List Str := ["value"]
def P_require_integer : List Str := ["value"]
abbrev S_require_integer : Scope := defScope (top 13)
def n_require_integer : SS := (sIf (eNot (eTest (eCal 1 f_is_integer [] (aCons (eVar 0) aNil)))) sStk sNext)
def f_require_integer : FF := fnD 0 n_require_integer
def N_is_poly_any : List Str := ["prime", "value", "number"]
def P_is_poly_any : List Str := ["prime", "value"]
abbrev S_is_poly_any : Scope := defScope (top 16)
def e_is_poly_any_1 : EE := (eCal 3 f_is_within [] (aCons (eVar 2) (aCons (eC (.int 0)) (aCons (eOp (ints2 fun i j => some (.int (i - j))) (eVar 0) (eC (.int 1))) aNil))))
def q_is_poly_any_1 : EA := (fLc (iSeq (eVar 1)) (gNameD 2) eYes e_is_poly_any_1 [2])
def n_is_poly_any : SS := (sSeq (sIf (eOr (eNot (eTest (eCB isiD (aCons (eVar 1) (aCons (eC (.ty "tuple")) aNil))))) (eNot (eTest (eCB (onB fun bs => some (.bl (bs.all id))) (aCons (eFz q_is_poly_any_1) aNil))))) (sRet (eC (.bl false))) sNext) (sRet (eOrV (eOp eqD (eVar 1) (eTup aNil)) (eOp neD (eOp ixD (eVar 1) (eUn negD (eC (.int 1)))) (eC (.int 0))))))
def f_is_poly_any : FF := fnD 1 n_is_poly_any
def N_monic_in : List Str := ["prime", "one"]
def P_monic_in : List Str := ["prime", "one"]
abbrev S_monic_in : Scope := defScope (top 24)
def n_monic_in : SS := (sRet (eIf (eTest (eOp neD (eVar 1) (eTup aNil))) (eCal 3 f_scaled_poly [] (aCons (eVar 0) (aCons (eVar 1) (aCons (eCal 2 f_undone_number [] (aCons (eVar 0) (aCons (eOp ixD (eVar 1) (eUn negD (eC (.int 1)))) aNil))) aNil)))) (eTup aNil)))
def f_monic_in : FF := fnD 0 n_monic_in
def N_paper_in : List Str := ["prime", "one", "other", "number", "first", "second", "u", "v", "s", "w", "quotient", "rest", "poly"]
def P_paper_in : List Str := ["prime", "one", "other"]
abbrev S_paper_in : Scope := defScope (top 26)
def t_paper_in_1 : ET := (eTest (eOp neD (eVar 5) (eTup aNil)))
def y_paper_in_1 : SS := (sSeq (sAsg (eCal 3 f_divided_in [] (aCons (eVar 0) (aCons (eVar 4) (aCons (eVar 5) aNil)))) (gTupD (gNameD 10 :: gNameD 11 :: []))) (sSeq (sPar2 4 5 (aCons (eVar 5) (aCons (eVar 11) aNil))) (sSeq (sPar2 6 8 (aCons (eVar 8) (aCons (eCal 4 f_plus_in [] (aCons (eVar 0) (aCons (eVar 6) (aCons (eCal 3 f_times_in [] (aCons (eVar 0) (aCons (eVar 10) (aCons (eVar 8) aNil)))) (aCons (eUn negD (eC (.int 1))) aNil))))) aNil))) (sPar2 7 9 (aCons (eVar 9) (aCons (eCal 4 f_plus_in [] (aCons (eVar 0) (aCons (eVar 7) (aCons (eCal 3 f_times_in [] (aCons (eVar 0) (aCons (eVar 10) (aCons (eVar 9) aNil)))) (aCons (eUn negD (eC (.int 1))) aNil))))) aNil))))))
def w_paper_in_1 : SS := (sLoop t_paper_in_1 y_paper_in_1 100000)
def e_paper_in_1 : EE := (eCal 3 f_scaled_poly [] (aCons (eVar 0) (aCons (eVar 12) (aCons (eVar 3) aNil))))
def q_paper_in_1 : EA := (fLc (iSeq (eTup (aCons (eVar 4) (aCons (eVar 6) (aCons (eVar 7) aNil))))) (gNameD 12) eYes e_paper_in_1 [12])
def n_paper_in : SS := (sSeq (sAsg (eTup (aCons (eVar 1) (aCons (eVar 2) (aCons (eTup (aCons (eC (.int 1)) aNil)) (aCons (eTup aNil) (aCons (eTup aNil) (aCons (eTup (aCons (eC (.int 1)) aNil)) aNil))))))) (gTupD (gNameD 4 :: gNameD 5 :: gNameD 6 :: gNameD 7 :: gNameD 8 :: gNameD 9 :: []))) (sSeq w_paper_in_1 (sSeq (sIf (eTest (eOp eqD (eVar 4) (eTup aNil))) (sRet (eTup (aCons (eTup aNil) (aCons (eTup aNil) (aCons (eTup aNil) aNil))))) sNext) (sSeq (sSet 3 (eCal 2 f_undone_number [] (aCons (eVar 0) (aCons (eOp ixD (eVar 4) (eUn negD (eC (.int 1)))) aNil)))) (sRet (eCB tupleD (aCons (eFz q_paper_in_1) aNil)))))))
def f_paper_in : FF := fnD 10 n_paper_in
def N_raised_in : List Str := ["prime", "one", "many", "found", "square", "left"]
def P_raised_in : List Str := ["prime", "one", "many"]
abbrev S_raised_in : Scope := defScope (top 27)
def t_raised_in_1 : ET := (eTest (eOp (ints2 fun i j => some (.bl (decide (j < i)))) (eVar 5) (eC (.int 0))))
def y_raised_in_1 : SS := (sSeq (sIf (eTest (eOp eqD (eOp (ints2 modI) (eVar 5) (eC (.int 2))) (eC (.int 1)))) (sSet 3 (eCal 3 f_times_in [] (aCons (eVar 0) (aCons (eVar 3) (aCons (eVar 4) aNil))))) sNext) (sPar2 4 5 (aCons (eIf (eTest (eOp (ints2 fun i j => some (.bl (decide (j < i)))) (eVar 5) (eC (.int 1)))) (eCal 3 f_times_in [] (aCons (eVar 0) (aCons (eVar 4) (aCons (eVar 4) aNil)))) (eVar 4)) (aCons (eOp (ints2 divI) (eVar 5) (eC (.int 2))) aNil))))
def w_raised_in_1 : SS := (sLoop t_raised_in_1 y_raised_in_1 100000)
def n_raised_in : SS := (sSeq (sPar3 3 4 5 (aCons (eTup (aCons (eC (.int 1)) aNil)) (aCons (eVar 1) (aCons (eVar 2) aNil)))) (sSeq w_raised_in_1 (sRet (eVar 3))))
def f_raised_in : FF := fnD 3 n_raised_in
def N__law_po_monic : List Str := ["prime", "poly"]
def P__law_po_monic : List Str := ["prime", "poly"]
abbrev S__law_po_monic : Scope := defScope (top 51)
def n__law_po_monic : SS := (sRet (eIf (eTest (eOp neD (eVar 1) (eTup aNil))) (eCal 3 f__law_po_times [] (aCons (eVar 0) (aCons (eVar 1) (aCons (eCal 2 f__law_po_inverse [] (aCons (eVar 0) (aCons (eOp ixD (eVar 1) (eOp (ints2 fun i j => some (.int (i - j))) (eCB lenD (aCons (eVar 1) aNil)) (eC (.int 1)))) aNil))) aNil)))) (eTup aNil)))
def f__law_po_monic : FF := fnD 0 n__law_po_monic
def N__law_po_power : List Str := ["prime", "poly", "many", "found", "turn"]
def P__law_po_power : List Str := ["prime", "poly", "many"]
abbrev S__law_po_power : Scope := defScope (top 54)
def y__law_po_power_1 : SS := (sSet 3 (eCal 3 f__law_po_product [] (aCons (eVar 0) (aCons (eVar 3) (aCons (eVar 1) aNil)))))
def w__law_po_power_1 : SS := (sFor (iRngN 1 (aCons (eVar 2) aNil)) (gNameD 4) y__law_po_power_1)
def n__law_po_power : SS := (sSeq (sSet 3 (eTup (aCons (eC (.int 1)) aNil))) (sSeq w__law_po_power_1 (sRet (eVar 3))))
def f__law_po_power : FF := fnD 2 n__law_po_power
def N_require_poly : List Str := ["prime", "value"]
def P_require_poly : List Str := ["prime", "value"]
abbrev S_require_poly : Scope := defScope (top 17)
def n_require_poly : SS := (sIf (eOr (eNot (eTest (eCal 2 f_is_poly_any [] (aCons (eVar 0) (aCons (eVar 1) aNil))))) (eTest (eOp (ints2 fun i j => some (.bl (decide (j < i)))) (eCB lenD (aCons (eVar 1) aNil)) (eOp addD (eC c_MAX_POWER) (eC (.int 1)))))) sStk sNext)
def f_require_poly : FF := fnD 0 n_require_poly
def N_common_in : List Str := ["prime", "one", "other"]
def P_common_in : List Str := ["prime", "one", "other"]
abbrev S_common_in : Scope := defScope (top 25)
def t_common_in_1 : ET := (eTest (eOp neD (eVar 2) (eTup aNil)))
def y_common_in_1 : SS := (sPar2 1 2 (aCons (eVar 2) (aCons (eOp ixD (eCal 3 f_divided_in [] (aCons (eVar 0) (aCons (eVar 1) (aCons (eVar 2) aNil)))) (eC (.int 1))) aNil)))
def w_common_in_1 : SS := (sLoop t_common_in_1 y_common_in_1 100000)
def n_common_in : SS := (sSeq w_common_in_1 (sRet (eCal 2 f_monic_in [] (aCons (eVar 0) (aCons (eVar 1) aNil)))))
def f_common_in : FF := fnD 0 n_common_in
def N_is_poly : List Str := ["prime", "value"]
def P_is_poly : List Str := ["prime", "value"]
abbrev S_is_poly : Scope := defScope (top 31)
def n_is_poly : SS := (sSeq (sDrop (eCal 1 f_require_prime [] (aCons (eVar 0) aNil))) (sRet (eAndV (eCal 2 f_is_poly_any [] (aCons (eVar 0) (aCons (eVar 1) aNil))) (eOp (ints2 fun i j => some (.bl (decide (i ≤ j)))) (eCB lenD (aCons (eVar 1) aNil)) (eOp addD (eC c_MAX_POWER) (eC (.int 1)))))))
def f_is_poly : FF := fnD 0 n_is_poly
def N__law_po_common : List Str := ["prime", "one", "other", "turn"]
def P__law_po_common : List Str := ["prime", "one", "other"]
abbrev S__law_po_common : Scope := defScope (top 52)
def y__law_po_common_1 : SS := (sSeq (sIf (eTest (eOp eqD (eVar 2) (eTup aNil))) sBrk sNext) (sPar2 1 2 (aCons (eVar 2) (aCons (eOp ixD (eCal 3 f__law_po_division [] (aCons (eVar 0) (aCons (eVar 1) (aCons (eVar 2) aNil)))) (eC (.int 1))) aNil))))
def w__law_po_common_1 : SS := (sFor (iRngN 1 (aCons (eOp addD (eOp addD (eCB lenD (aCons (eVar 1) aNil)) (eCB lenD (aCons (eVar 2) aNil))) (eC (.int 2))) aNil)) (gNameD 3) y__law_po_common_1)
def n__law_po_common : SS := (sSeq w__law_po_common_1 (sRet (eCal 2 f__law_po_monic [] (aCons (eVar 0) (aCons (eVar 1) aNil)))))
def f__law_po_common : FF := fnD 1 n__law_po_common
def N_require_two : List Str := ["prime", "one", "other"]
def P_require_two : List Str := ["prime", "one", "other"]
abbrev S_require_two : Scope := defScope (top 30)
def n_require_two : SS := (sSeq (sDrop (eCal 1 f_require_prime [] (aCons (eVar 0) aNil))) (sSeq (sDrop (eCal 2 f_require_poly [] (aCons (eVar 0) (aCons (eVar 1) aNil)))) (sDrop (eCal 2 f_require_poly [] (aCons (eVar 0) (aCons (eVar 2) aNil))))))
def f_require_two : FF := fnD 0 n_require_two
def N_poly_power : List Str := ["prime", "poly", "many"]
def P_poly_power : List Str := ["prime", "poly", "many"]
abbrev S_poly_power : Scope := defScope (top 37)
def n_poly_power : SS := (sSeq (sDrop (eCal 1 f_require_prime [] (aCons (eVar 0) aNil))) (sSeq (sDrop (eCal 2 f_require_poly [] (aCons (eVar 0) (aCons (eVar 1) aNil)))) (sSeq (sDrop (eCal 3 f_require_within [] (aCons (eVar 2) (aCons (eC (.int 0)) (aCons (eC c_MAX_POWER) aNil))))) (sRet (eCal 3 f_raised_in [] (aCons (eVar 0) (aCons (eVar 1) (aCons (eVar 2) aNil))))))))
def f_poly_power : FF := fnD 0 n_poly_power
def N_poly_slope : List Str := ["prime", "poly"]
def P_poly_slope : List Str := ["prime", "poly"]
abbrev S_poly_slope : Scope := defScope (top 38)
def n_poly_slope : SS := (sSeq (sDrop (eCal 1 f_require_prime [] (aCons (eVar 0) aNil))) (sSeq (sDrop (eCal 2 f_require_poly [] (aCons (eVar 0) (aCons (eVar 1) aNil)))) (sRet (eCal 2 f_slope_of_poly [] (aCons (eVar 0) (aCons (eVar 1) aNil))))))
def f_poly_slope : FF := fnD 0 n_poly_slope
def N_poly_at : List Str := ["prime", "poly", "number"]
def P_poly_at : List Str := ["prime", "poly", "number"]
abbrev S_poly_at : Scope := defScope (top 39)
def n_poly_at : SS := (sSeq (sDrop (eCal 1 f_require_prime [] (aCons (eVar 0) aNil))) (sSeq (sDrop (eCal 2 f_require_poly [] (aCons (eVar 0) (aCons (eVar 1) aNil)))) (sSeq (sDrop (eCal 1 f_require_integer [] (aCons (eVar 2) aNil))) (sRet (eCal 3 f_value_in [] (aCons (eVar 0) (aCons (eVar 1) (aCons (eVar 2) aNil))))))))
def f_poly_at : FF := fnD 0 n_poly_at
def N__law_is_paper_right : List Str := ["prime", "one", "other", "told", "made", "shared", "first", "second", "poly", "entry"]
def P__law_is_paper_right : List Str := ["prime", "one", "other", "told"]
abbrev S__law_is_paper_right : Scope := defScope (top 57)
def e__law_is_paper_right_1 : EE := (eOp (ints2 modI) (eCB intOf (aCons (eVar 9) aNil)) (eVar 0))
def q__law_is_paper_right_1 : EA := (fLc (iSeq (eVar 8)) (gNameD 9) eYes e__law_is_paper_right_1 [9])
def e__law_is_paper_right_2 : EE := (eVar 8)
def t__law_is_paper_right_1 : ET := (eOr (eNot (eTest (eCB isiD (aCons (eVar 8) (aCons (eC (.ty "tuple")) aNil))))) (eTest (eOp neD (eCal 1 f__law_po_cut [] (aCons (eFz q__law_is_paper_right_1) aNil)) (eVar 8))))
def q__law_is_paper_right_2 : EA := (fLc (iSeq (eVar 3)) (gNameD 8) t__law_is_paper_right_1 e__law_is_paper_right_2 [8])
def n__law_is_paper_right : SS := (sSeq (sIf (eOr (eNot (eTest (eCB isiD (aCons (eVar 3) (aCons (eC (.ty "tuple")) aNil))))) (eOr (eTest (eOp neD (eCB lenD (aCons (eVar 3) aNil)) (eC (.int 3)))) (eTest (eOp neD (eOp ixD (eVar 3) (eC (.int 0))) (eCal 3 f__law_po_common [] (aCons (eVar 0) (aCons (eVar 1) (aCons (eVar 2) aNil)))))))) (sRet (eC (.bl false))) sNext) (sSeq (sAsg (eVar 3) (gTupD (gNameD 5 :: gNameD 6 :: gNameD 7 :: []))) (sSeq (sIf (eTest (eOp neD (eFz q__law_is_paper_right_2) (eFz (fLst aNil)))) (sRet (eC (.bl false))) sNext) (sSeq (sSet 4 (eCal 4 f__law_po_sum [] (aCons (eVar 0) (aCons (eCal 3 f__law_po_product [] (aCons (eVar 0) (aCons (eVar 6) (aCons (eVar 1) aNil)))) (aCons (eCal 3 f__law_po_product [] (aCons (eVar 0) (aCons (eVar 7) (aCons (eVar 2) aNil)))) (aCons (eC (.int 1)) aNil)))))) (sSeq (sIf (eOr (eTest (eOp neD (eVar 4) (eVar 5))) (eOr (eAnd (eTest (eOp eqD (eVar 1) (eTup aNil))) (eTest (eOp neD (eVar 6) (eTup aNil)))) (eAnd (eTest (eOp eqD (eVar 2) (eTup aNil))) (eTest (eOp neD (eVar 7) (eTup aNil)))))) (sRet (eC (.bl false))) sNext) (sSeq (sIf (eOr (eTest (eOp eqD (eVar 1) (eTup aNil))) (eTest (eOp eqD (eVar 2) (eTup aNil)))) (sRet (eC (.bl true))) sNext) (sRet (eOp (ints2 fun i j => some (.bl (decide (i ≤ j)))) (eCB lenD (aCons (eVar 6) aNil)) (eOp (ints2 fun i j => some (.int (i - j))) (eCB lenD (aCons (eVar 2) aNil)) (eCB lenD (aCons (eVar 5) aNil)))))))))))
def f__law_is_paper_right : FF := fnD 6 n__law_is_paper_right
def N_poly_sum : List Str := ["prime", "one", "other", "times"]
def P_poly_sum : List Str := ["prime", "one", "other", "times"]
abbrev S_poly_sum : Scope := defScope (top 32)
def n_poly_sum : SS := (sSeq (sDrop (eCal 3 f_require_two [] (aCons (eVar 0) (aCons (eVar 1) (aCons (eVar 2) aNil))))) (sSeq (sDrop (eCal 1 f_require_integer [] (aCons (eVar 3) aNil))) (sRet (eCal 4 f_plus_in [] (aCons (eVar 0) (aCons (eVar 1) (aCons (eVar 2) (aCons (eVar 3) aNil))))))))
def f_poly_sum : FF := fnD 0 n_poly_sum
def N_poly_product : List Str := ["prime", "one", "other"]
def P_poly_product : List Str := ["prime", "one", "other"]
abbrev S_poly_product : Scope := defScope (top 33)
def n_poly_product : SS := (sSeq (sDrop (eCal 3 f_require_two [] (aCons (eVar 0) (aCons (eVar 1) (aCons (eVar 2) aNil))))) (sRet (eCal 3 f_times_in [] (aCons (eVar 0) (aCons (eVar 1) (aCons (eVar 2) aNil))))))
def f_poly_product : FF := fnD 0 n_poly_product
def N_poly_division : List Str := ["prime", "one", "other"]
def P_poly_division : List Str := ["prime", "one", "other"]
abbrev S_poly_division : Scope := defScope (top 34)
def n_poly_division : SS := (sSeq (sDrop (eCal 3 f_require_two [] (aCons (eVar 0) (aCons (eVar 1) (aCons (eVar 2) aNil))))) (sSeq (sIf (eTest (eOp eqD (eVar 2) (eTup aNil))) sStk sNext) (sRet (eCal 3 f_divided_in [] (aCons (eVar 0) (aCons (eVar 1) (aCons (eVar 2) aNil)))))))
def f_poly_division : FF := fnD 0 n_poly_division
def N_common_poly : List Str := ["prime", "one", "other"]
def P_common_poly : List Str := ["prime", "one", "other"]
abbrev S_common_poly : Scope := defScope (top 35)
def n_common_poly : SS := (sSeq (sDrop (eCal 3 f_require_two [] (aCons (eVar 0) (aCons (eVar 1) (aCons (eVar 2) aNil))))) (sRet (eCal 3 f_common_in [] (aCons (eVar 0) (aCons (eVar 1) (aCons (eVar 2) aNil))))))
def f_common_poly : FF := fnD 0 n_common_poly
def N_common_paper : List Str := ["prime", "one", "other"]
def P_common_paper : List Str := ["prime", "one", "other"]
abbrev S_common_paper : Scope := defScope (top 36)
def n_common_paper : SS := (sSeq (sDrop (eCal 3 f_require_two [] (aCons (eVar 0) (aCons (eVar 1) (aCons (eVar 2) aNil))))) (sRet (eCal 3 f_paper_in [] (aCons (eVar 0) (aCons (eVar 1) (aCons (eVar 2) aNil))))))
def f_common_paper : FF := fnD 0 n_common_paper
def N__law_sums_right : List Str := ["bag", "prime", "one", "other", "often", "many", "number"]
def P__law_sums_right : List Str := ["bag", "prime", "one", "other"]
abbrev S__law_sums_right : Scope := defScope (top 58)
def n__law_sums_right : SS := (sSeq (sSet 4 (eCalB 2 f__law_one_of [] (aCons (eVar 0) (aCons (eFz (fLst (aCons (eC (.int 1)) (aCons (eUn negD (eC (.int 1))) (aCons (eC (.int 0)) (aCons (eC (.int 2)) (aCons (eCalB 2 f__law_grab [] (aCons (eVar 0) (aCons (eOp (ints2 powI) (eC (.int 10)) (eC (.int 58))) aNil))) (aCons (eOp (ints2 fun i j => some (.int (i - j))) (eC (.int 0)) (eCalB 2 f__law_grab [] (aCons (eVar 0) (aCons (eOp (ints2 powI) (eC (.int 10)) (eC (.int 20))) aNil)))) aNil)))))))) aNil)))) (sSeq (sIf (eTest (eOp neD (eCalK 3 1 4 f_poly_sum (aCons (eVar 1) (aCons (eVar 2) (aCons (eVar 3) aNil))) (aCons (eVar 4) aNil)) (eCal 4 f__law_po_sum [] (aCons (eVar 1) (aCons (eVar 2) (aCons (eVar 3) (aCons (eVar 4) aNil))))))) (sRet (eC (.bl false))) sNext) (sSeq (sIf (eOr (eTest (eOp neD (eCal 4 f_poly_sum [.int 1] (aCons (eVar 1) (aCons (eVar 2) (aCons (eVar 3) aNil)))) (eCal 4 f__law_po_sum [] (aCons (eVar 1) (aCons (eVar 2) (aCons (eVar 3) (aCons (eC (.int 1)) aNil))))))) (eTest (eOp neD (eCalK 3 1 4 f_poly_sum (aCons (eVar 1) (aCons (eVar 2) (aCons (eVar 2) aNil))) (aCons (eUn negD (eC (.int 1))) aNil)) (eTup aNil)))) (sRet (eC (.bl false))) sNext) (sSeq (sIf (eTest (eOp neD (eCal 3 f_poly_product [] (aCons (eVar 1) (aCons (eVar 2) (aCons (eVar 3) aNil)))) (eCal 3 f__law_po_product [] (aCons (eVar 1) (aCons (eVar 2) (aCons (eVar 3) aNil)))))) (sRet (eC (.bl false))) sNext) (sSeq (sSet 5 (eCalB 2 f__law_grab [] (aCons (eVar 0) (aCons (eOp addD (eC (.int 1)) (eOp (ints2 divI) (eC (.int 60)) (eOp addD (eC (.int 1)) (eCB lenD (aCons (eVar 2) aNil))))) aNil)))) (sSeq (sSet 6 (eCalB 2 f__law_one_of [] (aCons (eVar 0) (aCons (eFz (fLst (aCons (eCalB 2 f__law_grab [] (aCons (eVar 0) (aCons (eC (.int 9)) aNil))) (aCons (eOp (ints2 fun i j => some (.int (i - j))) (eC (.int 0)) (eCalB 2 f__law_grab [] (aCons (eVar 0) (aCons (eC (.int 9)) aNil)))) (aCons (eOp (ints2 fun i j => some (.int (i - j))) (eOp (ints2 powI) (eC (.int 10)) (eC (.int 59))) (eCalB 2 f__law_grab [] (aCons (eVar 0) (aCons (eOp (ints2 powI) (eC (.int 10)) (eC (.int 9))) aNil)))) aNil))))) aNil)))) (sSeq (sIf (eOr (eTest (eOp neD (eCal 3 f_poly_power [] (aCons (eVar 1) (aCons (eVar 2) (aCons (eVar 5) aNil)))) (eCal 3 f__law_po_power [] (aCons (eVar 1) (aCons (eVar 2) (aCons (eVar 5) aNil)))))) (eTest (eOp neD (eCal 2 f_poly_slope [] (aCons (eVar 1) (aCons (eVar 2) aNil))) (eCal 2 f__law_po_slope [] (aCons (eVar 1) (aCons (eVar 2) aNil)))))) (sRet (eC (.bl false))) sNext) (sRet (eOp eqD (eCal 3 f_poly_at [] (aCons (eVar 1) (aCons (eVar 2) (aCons (eVar 6) aNil)))) (eCal 3 f__law_po_at [] (aCons (eVar 1) (aCons (eVar 2) (aCons (eVar 6) aNil)))))))))))))
def f__law_sums_right : FF := fnD 3 n__law_sums_right
def N__law_quotients_right : List Str := ["prime", "one", "other"]
def P__law_quotients_right : List Str := ["prime", "one", "other"]
abbrev S__law_quotients_right : Scope := defScope (top 59)
def n__law_quotients_right : SS := (sSeq (sIf (eAnd (eTest (eOp neD (eVar 2) (eTup aNil))) (eTest (eOp neD (eCal 3 f_poly_division [] (aCons (eVar 0) (aCons (eVar 1) (aCons (eVar 2) aNil)))) (eCal 3 f__law_po_division [] (aCons (eVar 0) (aCons (eVar 1) (aCons (eVar 2) aNil))))))) (sRet (eC (.bl false))) sNext) (sSeq (sIf (eTest (eOp neD (eCal 3 f_common_poly [] (aCons (eVar 0) (aCons (eVar 1) (aCons (eVar 2) aNil)))) (eCal 3 f__law_po_common [] (aCons (eVar 0) (aCons (eVar 1) (aCons (eVar 2) aNil)))))) (sRet (eC (.bl false))) sNext) (sRet (eCal 4 f__law_is_paper_right [] (aCons (eVar 0) (aCons (eVar 1) (aCons (eVar 2) (aCons (eCal 3 f_common_paper [] (aCons (eVar 0) (aCons (eVar 1) (aCons (eVar 2) aNil)))) aNil))))))))
def f__law_quotients_right : FF := fnD 0 n__law_quotients_right
def N__law_right : List Str := ["bag", "prime", "most", "shared", "wide", "some", "one", "other", "poly", "value"]
def P__law_right : List Str := ["bag"]
abbrev S__law_right : Scope := defScope (top 60)
def e__law_right_1 : EE := (eCal 3 f__law_po_product [] (aCons (eVar 1) (aCons (eVar 8) (aCons (eVar 3) aNil))))
def q__law_right_1 : EA := (fLc (iSeq (eTup (aCons (eVar 6) (aCons (eVar 7) aNil)))) (gNameD 8) eYes e__law_right_1 [8])
def e__law_right_2 : EE := (eCB lenD (aCons (eVar 8) aNil))
def q__law_right_2 : EA := (fLc (iSeq (eVar 4)) (gNameD 8) eYes e__law_right_2 [8])
def e__law_right_3 : EE := (eVar 9)
def t__law_right_1 : ET := (eTest (eOp neD (eCB reprD (aCons (eCal 2 f_is_poly [] (aCons (eVar 1) (aCons (eVar 9) aNil))) aNil)) (eCB reprD (aCons (eCal 2 f__law_is_poly_here [] (aCons (eVar 1) (aCons (eVar 9) aNil))) aNil))))
def q__law_right_3 : EA := (fLc (iSeq (eVar 5)) (gNameD 9) t__law_right_1 e__law_right_3 [9])
def n__law_right : SS := (sSeq (sSet 1 (eCalB 2 f__law_one_of [] (aCons (eVar 0) (aCons (eFz (fLst (aCons (eC (.int 2)) (aCons (eC (.int 3)) (aCons (eC (.int 5)) (aCons (eC (.int 7)) (aCons (eC (.int 2)) (aCons (eC (.int 3)) aNil)))))))) aNil)))) (sSeq (sSet 2 (eCalB 2 f__law_one_of [] (aCons (eVar 0) (aCons (eFz (fLst (aCons (eC (.int 2)) (aCons (eC (.int 3)) (aCons (eC (.int 6)) (aCons (eC (.int 12)) (aCons (eC (.int 12)) (aCons (eC (.int 60)) aNil)))))))) aNil)))) (sSeq (sPar2 6 7 (aCons (eCalB 3 f__law_poly_drawn [] (aCons (eVar 0) (aCons (eVar 1) (aCons (eVar 2) aNil)))) (aCons (eCalB 3 f__law_poly_drawn [] (aCons (eVar 0) (aCons (eVar 1) (aCons (eVar 2) aNil)))) aNil))) (sSeq (sSet 3 (eCalB 3 f__law_poly_drawn [] (aCons (eVar 0) (aCons (eVar 1) (aCons (eC (.int 3)) aNil))))) (sSeq (sIf (eOr (eNot (eTest (eCalB 4 f__law_sums_right [] (aCons (eVar 0) (aCons (eVar 1) (aCons (eVar 6) (aCons (eVar 7) aNil))))))) (eNot (eTest (eCal 3 f__law_quotients_right [] (aCons (eVar 1) (aCons (eVar 6) (aCons (eVar 7) aNil))))))) (sRet (eC (.bl false))) sNext) (sSeq (sSet 4 (eFz q__law_right_1)) (sSeq (sIf (eAnd (eTest (eOp (ints2 fun i j => some (.bl (decide (i < j)))) (eCB (onI fun ns => (maxI ns).map .int) (aCons (eFz q__law_right_2) aNil)) (eC (.int 62)))) (eNot (eTest (eCal 3 f__law_quotients_right [] (aCons (eVar 1) (aCons (eOp ixD (eVar 4) (eC (.int 0))) (aCons (eOp ixD (eVar 4) (eC (.int 1))) aNil))))))) (sRet (eC (.bl false))) sNext) (sSeq (sSet 5 (eFz (fLst (aCons (eVar 6) (aCons (eFz (fCB listD (aCons (eVar 6) aNil))) (aCons (eOp addD (eVar 6) (eTup (aCons (eC (.int 0)) aNil))) (aCons (eOp addD (eCutT (eVar 6) oNo (oAt (eUn negD (eC (.int 1))))) (eTup (aCons (eVar 1) aNil))) (aCons (eOp mulD (eTup (aCons (eC (.int 1)) aNil)) (eC (.int 61))) (aCons (eOp mulD (eTup (aCons (eC (.int 1)) aNil)) (eC (.int 62))) (aCons (eC .non) (aCons (eTup aNil) (aCons (eC (.int 5)) (aCons (eC (.str "1")) (aCons (eTup (aCons (eC (.bl true)) aNil)) (aCons (eTup (aCons (eC (.int 1)) (aCons (eC .non) aNil))) (aCons (eOp addD (eVar 6) (eTup (aCons (eUn negD (eC (.int 1))) aNil))) (aCons eDict0 aNil))))))))))))))))) (sSeq (sSet 5 (eFz (fOp fCat (eVar 5) (eFz (fLst (aCons (eTup (aCons (eC (.int 0)) aNil)) (aCons (eTup (aCons (eC (.int 0)) (aCons (eC (.int 0)) aNil))) (aCons (eOp addD (eVar 6) (eTup (aCons (eC (.int 1)) aNil))) (aCons (eTup (aCons (eOp (ints2 fun i j => some (.int (i - j))) (eVar 1) (eC (.int 1))) aNil)) (aCons (eTup (aCons (eTup (aCons (eC (.int 1)) aNil)) aNil)) (aCons (eRevT (eVar 7)) aNil))))))))))) (sRet (eOp eqD (eFz q__law_right_3) (eFz (fLst aNil)))))))))))))
def f__law_right : FF := fnD 9 n__law_right
def N_law : List Str := ["script", "spot", "told", "bag"]
def P_law : List Str := ["script"]
abbrev S_law : Scope := defScope (top 61)
def y_law_1 : SS := (sSeq (sSet 3 (eHnd (fCal 2 f__law_bag [] (aCons (eVar 0) (aCons (eVar 1) aNil))))) (sIf (eOr (eNot (eTest (eCalB 1 f__law_right [] (aCons (eVar 3) aNil)))) (eNot (eTest (eCalB 1 f__law_right [] (aCons (eVar 3) aNil))))) (sRet (eC (.bl false))) sNext))
def w_law_1 : SS := (sFor (iRngN 1 (aCons (eCB max2D (aCons (eC (.int 1)) (aCons (eCB min2D (aCons (eC (.int 3)) (aCons (eCB lenD (aCons (eVar 0) aNil)) aNil))) aNil))) aNil)) (gNameD 1) y_law_1)
def n_law : SS := (sSeq w_law_1 (sSeq (sSet 2 (eFz (fLst (aCons (eCal 3 f_poly_division [] (aCons (eC (.int 3)) (aCons (eTup (aCons (eC (.int 1)) (aCons (eC (.int 0)) (aCons (eC (.int 1)) aNil)))) (aCons (eTup (aCons (eC (.int 1)) (aCons (eC (.int 1)) aNil))) aNil)))) (aCons (eCal 3 f_common_poly [] (aCons (eC (.int 3)) (aCons (eTup (aCons (eC (.int 2)) (aCons (eC (.int 0)) (aCons (eC (.int 1)) aNil)))) (aCons (eTup (aCons (eC (.int 2)) (aCons (eC (.int 1)) aNil))) aNil)))) (aCons (eCal 3 f_common_paper [] (aCons (eC (.int 2)) (aCons (eTup (aCons (eC (.int 1)) (aCons (eC (.int 1)) aNil))) (aCons (eTup (aCons (eC (.int 0)) (aCons (eC (.int 1)) aNil))) aNil)))) aNil)))))) (sSeq (sIf (eOr (eTest (eOp neD (eVar 2) (eFz (fLst (aCons (eTup (aCons (eTup (aCons (eC (.int 2)) (aCons (eC (.int 1)) aNil))) (aCons (eTup (aCons (eC (.int 2)) aNil)) aNil))) (aCons (eTup (aCons (eC (.int 2)) (aCons (eC (.int 1)) aNil))) (aCons (eTup (aCons (eTup (aCons (eC (.int 1)) aNil)) (aCons (eTup (aCons (eC (.int 1)) aNil)) (aCons (eTup (aCons (eC (.int 1)) aNil)) aNil)))) aNil))))))) (eTest (eOp neD (eCal 3 f_common_paper [] (aCons (eC (.int 5)) (aCons (eTup aNil) (aCons (eTup aNil) aNil)))) (eTup (aCons (eTup aNil) (aCons (eTup aNil) (aCons (eTup aNil) aNil))))))) (sRet (eC (.bl false))) sNext) (sRet (eAndV (eOp eqD (eCal 3 f_common_paper [] (aCons (eC (.int 7)) (aCons (eTup (aCons (eC (.int 0)) (aCons (eC (.int 3)) aNil))) (aCons (eTup (aCons (eC (.int 0)) (aCons (eC (.int 0)) (aCons (eC (.int 2)) aNil)))) aNil)))) (eTup (aCons (eTup (aCons (eC (.int 0)) (aCons (eC (.int 1)) aNil))) (aCons (eTup (aCons (eC (.int 5)) aNil)) (aCons (eTup aNil) aNil))))) (eOp eqD (eCal 3 f_common_paper [] (aCons (eC (.int 7)) (aCons (eTup aNil) (aCons (eTup (aCons (eC (.int 0)) (aCons (eC (.int 3)) aNil))) aNil)))) (eTup (aCons (eTup (aCons (eC (.int 0)) (aCons (eC (.int 1)) aNil))) (aCons (eTup aNil) (aCons (eTup (aCons (eC (.int 5)) aNil)) aNil))))))))))
def f_law : FF := fnD 3 n_law
theorem b_is_whole (M : Mo) (m_int : M.mg "int" = none) (m_isinstance : M.mg "isinstance" = none) (m_bool : M.mg "bool" = none) (W : WX) : DB M 0 W N_is_whole ⟨S_is_whole, S_is_whole⟩ (defBody (top 9)) n_is_whole :=
  (db_one (d1_ret (de_and (de_blt bl_isi m_isinstance (da_cons (de_var 0 rfl (.inl rfl)) (da_cons (de_ty m_int (by decide +kernel)) da_nil))) (de_one (de_not (de_blt bl_isi m_isinstance (da_cons (de_var 0 rfl (.inl rfl)) (da_cons (de_ty m_bool (by decide +kernel)) da_nil))))))))
theorem b_undone_number (M : Mo)  (W : WX) : DB M 0 W N_undone_number ⟨S_undone_number, S_undone_number⟩ (defBody (top 15)) n_undone_number :=
  (db_cons (d1_par3 2 3 4 rfl rfl rfl (by decide) (by decide) (by decide) rfl rfl rfl (da_cons de_int (da_cons (de_mod (de_var 1 rfl (.inl rfl)) (de_var 0 rfl (.inl rfl))) (da_cons (de_sub (de_var 0 rfl (.inl rfl)) de_int) da_nil)))) (db_cons (d1_while 100000 (dt_cmp cm_gt (de_var 4 rfl (.inl rfl)) de_int) (db_cons (d1_set 2 rfl (.inl rfl) (.inl rfl) (de_if (dt_cmp cm_eq (de_mod (de_var 4 rfl (.inl rfl)) de_int) de_int) (de_mod (de_mul (de_var 2 rfl (.inl rfl)) (de_var 3 rfl (.inl rfl))) (de_var 0 rfl (.inl rfl))) (de_var 2 rfl (.inl rfl)))) (db_one (d1_par2 3 4 rfl rfl (by decide) rfl rfl (da_cons (de_mod (de_mul (de_var 3 rfl (.inl rfl)) (de_var 3 rfl (.inl rfl))) (de_var 0 rfl (.inl rfl))) (da_cons (de_fdiv (de_var 4 rfl (.inl rfl)) de_int) da_nil)))))) (db_one (d1_ret (de_var 2 rfl (.inl rfl))))))
theorem b_trimmed (M : Mo) (m_tuple : M.mg "tuple" = none) (W : WX) : DB M 0 W N_trimmed ⟨S_trimmed, S_trimmed⟩ (defBody (top 18)) n_trimmed :=
  (db_cons (d1_setLcH 2 rfl rfl [("number", 3)] (di_seq (de_var 1 rfl (.inl rfl))) (blkOk_by (by decide +kernel)) (dg_name 3 rfl (.inl rfl) (.inl rfl)) dts_nil (de_mod (de_var 3 rfl (.inl rfl)) (de_var 0 rfl (.inr (.inl rfl))))) (db_cons (d1_while 100000 (dt_w (dw_and (dt_cmp cm_ne (de_var 2 rfl (.inl rfl)) (de_fz (df_lst da_nil))) (dw_and1 (dt_cmp cm_eq (de_ix (de_var 2 rfl (.inl rfl)) (de_neg de_int)) de_int)))) (db_one (d1_expr (de_pop (de_var 2 rfl (.inl rfl)))))) (db_one (d1_ret (de_bltT bl_tuple m_tuple (da_cons (de_var 2 rfl (.inl rfl)) da_nil))))))
theorem b_number_at (M : Mo) (m_len : M.mg "len" = none) (W : WX) : DB M 0 W N_number_at ⟨S_number_at, S_number_at⟩ (defBody (top 20)) n_number_at :=
  (db_one (d1_ret (de_if (dt_cmp cm_lt (de_var 1 rfl (.inl rfl)) (de_blt bl_len m_len (da_cons (de_var 0 rfl (.inl rfl)) da_nil))) (de_ix (de_var 0 rfl (.inl rfl)) (de_var 1 rfl (.inl rfl))) de_int)))
theorem b_value_in (M : Mo)  (W : WX) : DB M 0 W N_value_in ⟨S_value_in, S_value_in⟩ (defBody (top 29)) n_value_in :=
  (db_cons (d1_set 3 rfl (.inl rfl) (.inl rfl) de_int) (db_cons (d1_for (vs := [4]) (di_seq (de_revT (de_var 1 rfl (.inl rfl)))) (dg_name 4 rfl (.inl rfl) (.inl rfl)) (db_one (d1_set 3 rfl (.inl rfl) (.inl rfl) (de_mod (de_add (de_mul (de_var 3 rfl (.inl rfl)) (de_var 2 rfl (.inl rfl))) (de_var 4 rfl (.inl rfl))) (de_var 0 rfl (.inl rfl)))))) (db_one (d1_ret (de_var 3 rfl (.inl rfl))))))
theorem b__law_bag (M : Mo) (m_len : M.mg "len" = none) (m_abs : M.mg "abs" = none) (m_int : M.mg "int" = none) (m_max : M.mg "max" = none) (W : WX) : DB M 0 W N__law_bag ⟨S__law_bag, S__law_bag⟩ (defBody (top 41)) n__law_bag :=
  (db_cons (d1_set 2 rfl (.inl rfl) (.inl rfl) (de_if (dt_cmp cm_lt (de_var 1 rfl (.inl rfl)) (de_blt bl_len m_len (da_cons (de_var 0 rfl (.inl rfl)) da_nil))) (de_ix (de_var 0 rfl (.inl rfl)) (de_var 1 rfl (.inl rfl))) (de_add (de_mul de_int (de_var 1 rfl (.inl rfl))) de_int))) (db_cons (d1_set 3 rfl (.inl rfl) (.inl rfl) (de_mod (de_bltT bl_int m_int (da_cons (de_blt bl_abs m_abs (da_cons (de_var 2 rfl (.inl rfl)) da_nil)) da_nil)) (de_mul (de_pow de_int de_int) (de_pow de_int de_int)))) (db_cons (d1_set 4 rfl (.inl rfl) (.inl rfl) (de_add (de_add (de_add (de_mul (de_mod (de_var 3 rfl (.inl rfl)) de_int) de_int) (de_mul de_int (de_var 1 rfl (.inl rfl)))) (de_mul de_int (de_bltT bl_int m_int (da_cons (de_cmp cm_lt (de_var 2 rfl (.inl rfl)) de_int) da_nil)))) de_int)) (db_one (d1_ret (de_hnd (df_lst (da_cons (de_blt bl_max2 m_max (da_cons de_int (da_cons (de_sub (de_var 3 rfl (.inl rfl)) (de_pow de_int de_int)) da_nil))) (da_cons (de_mod (de_bltT bl_int m_int (da_cons (de_var 4 rfl (.inl rfl)) da_nil)) de_int) (da_cons de_int da_nil))))))))))
theorem b__law_grab (M : Mo) (m_int : M.mg "int" = none) (W : WX) : DB M 0 W N__law_grab ⟨S__law_grab, S__law_grab⟩ (defBody (top 42)) n__law_grab :=
  (db_cons (d1_if (dt_cmp cm_gt (de_ix (de_var 0 rfl (.inl rfl)) de_int) de_int) (db_cons (d1_set 4 rfl (.inl rfl) (.inl rfl) (de_mod (de_bltT bl_int m_int (da_cons (de_ix (de_var 0 rfl (.inl rfl)) de_int) da_nil)) (de_var 1 rfl (.inl rfl)))) (db_cons (d1_put (de_fdiv (de_ix (de_var 0 rfl (.inl rfl)) de_int) (de_var 1 rfl (.inl rfl))) (de_var 0 rfl (.inl rfl)) de_int) (db_one (d1_ret (de_var 4 rfl (.inl rfl)))))) db_nil) (db_cons (d1_put (de_add (de_ix (de_var 0 rfl (.inl rfl)) de_int) de_int) (de_var 0 rfl (.inl rfl)) de_int) (db_cons (d1_set 2 rfl (.inl rfl) (.inl rfl) (de_mod (de_bltT bl_int m_int (da_cons (de_add (de_ix (de_var 0 rfl (.inl rfl)) de_int) (de_mul de_int (de_ix (de_var 0 rfl (.inl rfl)) de_int))) da_nil)) de_int)) (db_cons (d1_set 3 rfl (.inl rfl) (.inl rfl) (de_add (de_mul (de_mod (de_bltT bl_int m_int (da_cons (de_add (de_mul (de_var 2 rfl (.inl rfl)) (de_var 2 rfl (.inl rfl))) (de_mul de_int (de_ix (de_var 0 rfl (.inl rfl)) de_int))) da_nil)) de_int) de_int) (de_var 2 rfl (.inl rfl)))) (db_one (d1_ret (de_mod (de_bltT bl_int m_int (da_cons (de_fdiv (de_var 3 rfl (.inl rfl)) de_int) da_nil)) (de_var 1 rfl (.inl rfl)))))))))
theorem b__law_po_cut (M : Mo) (m_len : M.mg "len" = none) (m_range : M.mg "range" = none) (m_tuple : M.mg "tuple" = none) (W : WX) : DB M 0 W N__law_po_cut ⟨S__law_po_cut, S__law_po_cut⟩ (defBody (top 45)) n__law_po_cut :=
  (db_cons (d1_set 1 rfl (.inl rfl) (.inl rfl) (de_blt bl_len m_len (da_cons (de_var 0 rfl (.inr (.inl rfl))) da_nil))) (db_cons (d1_while 100000 (dt_w (dw_and (dt_cmp cm_gt (de_var 1 rfl (.inl rfl)) de_int) (dw_and1 (dt_cmp cm_eq (de_ix (de_var 0 rfl (.inr (.inl rfl))) (de_sub (de_var 1 rfl (.inl rfl)) de_int)) de_int)))) (db_one (d1_set 1 rfl (.inl rfl) (.inl rfl) (de_sub (de_var 1 rfl (.inl rfl)) de_int)))) (db_one (d1_ret (de_bltT bl_tuple m_tuple (da_cons (de_fz (df_lc [("at", 2)] (di_rng1 m_range (da_cons (de_var 1 rfl (.inl rfl)) da_nil)) (blkOk_by (by decide +kernel)) (dg_name 2 rfl (.inl rfl) (.inl rfl)) dts_nil (de_ix (de_var 0 rfl (.inr (.inl rfl))) (de_var 2 rfl (.inl rfl))))) da_nil))))))
theorem b__law_po_inverse (M : Mo) (m_range : M.mg "range" = none) (m_int : M.mg "int" = none) (W : WX) : DB M 0 W N__law_po_inverse ⟨S__law_po_inverse, S__law_po_inverse⟩ (defBody (top 49)) n__law_po_inverse :=
  (db_one (d1_ret (de_ix (de_fz (df_lc [("entry", 2)] (di_rng2 m_range (da_cons de_int (da_cons (de_var 0 rfl (.inr (.inl rfl))) da_nil))) (blkOk_by (by decide +kernel)) (dg_name 2 rfl (.inl rfl) (.inl rfl)) (dts_one (dt_cmp cm_eq (de_mod (de_bltT bl_int m_int (da_cons (de_mul (de_var 2 rfl (.inl rfl)) (de_var 1 rfl (.inr (.inl rfl)))) da_nil)) (de_var 0 rfl (.inr (.inl rfl)))) de_int)) (de_var 2 rfl (.inl rfl)))) de_int)))
theorem b__law_po_at (M : Mo) (m_int : M.mg "int" = none) (W : WX) : DB M 0 W N__law_po_at ⟨S__law_po_at, S__law_po_at⟩ (defBody (top 55)) n__law_po_at :=
  (db_cons (d1_set 3 rfl (.inl rfl) (.inl rfl) de_int) (db_cons (d1_for (vs := [4]) (di_seq (de_revT (de_var 1 rfl (.inl rfl)))) (dg_name 4 rfl (.inl rfl) (.inl rfl)) (db_one (d1_set 3 rfl (.inl rfl) (.inl rfl) (de_mod (de_bltT bl_int m_int (da_cons (de_add (de_mul (de_var 3 rfl (.inl rfl)) (de_var 2 rfl (.inl rfl))) (de_var 4 rfl (.inl rfl))) da_nil)) (de_var 0 rfl (.inl rfl)))))) (db_one (d1_ret (de_var 3 rfl (.inl rfl))))))
theorem b__law_is_poly_here (M : Mo) (m_tuple : M.mg "tuple" = none) (m_isinstance : M.mg "isinstance" = none) (m_len : M.mg "len" = none) (m_bool : M.mg "bool" = none) (m_int : M.mg "int" = none) (W : WX) : DB M 0 W N__law_is_poly_here ⟨S__law_is_poly_here, S__law_is_poly_here⟩ (defBody (top 56)) n__law_is_poly_here :=
  (db_cons (d1_if (dt_w (dw_or (dt_not (dt_val (de_blt bl_isi m_isinstance (da_cons (de_var 1 rfl (.inl rfl)) (da_cons (de_ty m_tuple (by decide +kernel)) da_nil))))) (dw_or1 (dt_cmp cm_gt (de_blt bl_len m_len (da_cons (de_var 1 rfl (.inl rfl)) da_nil)) de_int)))) (db_one (d1_ret de_bl)) db_nil) (db_cons (d1_if (dt_cmp cm_ne (de_fz (df_lc [("one", 2)] (di_seq (de_var 1 rfl (.inl rfl))) (blkOk_by (by decide +kernel)) (dg_name 2 rfl (.inl rfl) (.inl rfl)) (dts_one (dt_w (dw_or (dt_val (de_blt bl_isi m_isinstance (da_cons (de_var 2 rfl (.inl rfl)) (da_cons (de_ty m_bool (by decide +kernel)) da_nil)))) (dw_or1 (dt_not (dt_val (de_blt bl_isi m_isinstance (da_cons (de_var 2 rfl (.inl rfl)) (da_cons (de_ty m_int (by decide +kernel)) da_nil))))))))) (de_var 2 rfl (.inl rfl)))) (de_fz (df_lst da_nil))) (db_one (d1_ret de_bl)) db_nil) (db_one (d1_ret (de_and (de_cmp cm_eq (de_fz (df_lc [("one", 2)] (di_seq (de_var 1 rfl (.inl rfl))) (blkOk_by (by decide +kernel)) (dg_name 2 rfl (.inl rfl) (.inl rfl)) (dts_one (dt_not (dt_chain cm_le cm_lt de_int (de_var 2 rfl (.inl rfl)) (de_var 0 rfl (.inr (.inl rfl)))))) (de_var 2 rfl (.inl rfl)))) (de_fz (df_lst da_nil))) (de_one (de_cmp cm_ne (de_cutT (de_var 1 rfl (.inl rfl)) (do_at (de_neg de_int)) do_no) (de_tup (da_cons de_int da_nil)))))))))
theorem b_is_integer (M : Mo) (h_is_whole : Has M "is_whole" 1 P_is_whole [] (spD M.G 1 f_is_whole)) (g_MOST_FIGURES : Glb M "MOST_FIGURES" c_MOST_FIGURES) (W : WX) : DB M 1 W N_is_integer ⟨S_is_integer, S_is_integer⟩ (defBody (top 10)) n_is_integer :=
  (db_one (d1_ret (de_and (de_call h_is_whole (by decide) (fun _ _ => Reps.nil) (da_cons (de_var 0 rfl (.inl rfl)) da_nil)) (de_one (de_chain cm_lt cm_lt (de_neg (de_glob g_MOST_FIGURES)) (de_var 0 rfl (.inl rfl)) (de_glob g_MOST_FIGURES))))))
theorem b_is_within (M : Mo) (h_is_whole : Has M "is_whole" 1 P_is_whole [] (spD M.G 1 f_is_whole)) (W : WX) : DB M 1 W N_is_within ⟨S_is_within, S_is_within⟩ (defBody (top 11)) n_is_within :=
  (db_one (d1_ret (de_and (de_call h_is_whole (by decide) (fun _ _ => Reps.nil) (da_cons (de_var 0 rfl (.inl rfl)) da_nil)) (de_one (de_chain cm_le cm_le (de_var 1 rfl (.inl rfl)) (de_var 0 rfl (.inl rfl)) (de_var 2 rfl (.inl rfl)))))))
theorem b_require_prime (M : Mo) (h_is_whole : Has M "is_whole" 1 P_is_whole [] (spD M.G 1 f_is_whole)) (g_PRIMES : Glb M "PRIMES" c_PRIMES) (W : WX) : DB M 1 W N_require_prime ⟨S_require_prime, S_require_prime⟩ (defBody (top 14)) n_require_prime :=
  (db_one (d1_if (dt_w (dw_or (dt_not (dt_val (de_call h_is_whole (by decide) (fun _ _ => Reps.nil) (da_cons (de_var 0 rfl (.inl rfl)) da_nil)))) (dw_or1 (dt_cmp cm_notin (de_var 0 rfl (.inl rfl)) (de_glob g_PRIMES))))) (db_one d1_never) db_nil))
theorem b_plus_in (M : Mo) (h_number_at : Has M "number_at" 1 P_number_at [] (spD M.G 2 f_number_at)) (h_trimmed : Has M "trimmed" 1 P_trimmed [] (spD M.G 2 f_trimmed)) (m_len : M.mg "len" = none) (m_max : M.mg "max" = none) (m_range : M.mg "range" = none) (W : WX) : DB M 1 W N_plus_in ⟨S_plus_in, S_plus_in⟩ (defBody (top 19)) n_plus_in :=
  (db_cons (d1_set 4 rfl (.inl rfl) (.inl rfl) (de_blt bl_max2 m_max (da_cons (de_blt bl_len m_len (da_cons (de_var 1 rfl (.inr (.inl rfl))) da_nil)) (da_cons (de_blt bl_len m_len (da_cons (de_var 2 rfl (.inr (.inl rfl))) da_nil)) da_nil)))) (db_one (d1_ret (de_call h_trimmed (by decide) (fun _ _ => Reps.nil) (da_cons (de_var 0 rfl (.inl rfl)) (da_cons (de_fz (df_lc [("place", 5)] (di_rng1 m_range (da_cons (de_var 4 rfl (.inl rfl)) da_nil)) (blkOk_by (by decide +kernel)) (dg_name 5 rfl (.inl rfl) (.inl rfl)) dts_nil (de_add (de_call h_number_at (by decide) (fun _ _ => Reps.nil) (da_cons (de_var 1 rfl (.inr (.inl rfl))) (da_cons (de_var 5 rfl (.inl rfl)) da_nil))) (de_mul (de_var 3 rfl (.inr (.inl rfl))) (de_call h_number_at (by decide) (fun _ _ => Reps.nil) (da_cons (de_var 2 rfl (.inr (.inl rfl))) (da_cons (de_var 5 rfl (.inl rfl)) da_nil))))))) da_nil))))))
theorem b_times_in (M : Mo) (h_trimmed : Has M "trimmed" 1 P_trimmed [] (spD M.G 2 f_trimmed)) (m_len : M.mg "len" = none) (m_range : M.mg "range" = none) (m_enumerate : M.mg "enumerate" = none) (W : WX) : DB M 1 W N_times_in ⟨S_times_in, S_times_in⟩ (defBody (top 21)) n_times_in :=
  (db_cons (d1_if (dt_w (dw_or (dt_cmp cm_eq (de_var 1 rfl (.inl rfl)) (de_tup da_nil)) (dw_or1 (dt_cmp cm_eq (de_var 2 rfl (.inl rfl)) (de_tup da_nil))))) (db_one (d1_ret (de_tup da_nil))) db_nil) (db_cons (d1_setLcH 3 rfl rfl [("place", 4)] (di_rng1 m_range (da_cons (de_sub (de_add (de_blt bl_len m_len (da_cons (de_var 1 rfl (.inl rfl)) da_nil)) (de_blt bl_len m_len (da_cons (de_var 2 rfl (.inl rfl)) da_nil))) de_int) da_nil)) (blkOk_by (by decide +kernel)) (dg_name 4 rfl (.inl rfl) (.inl rfl)) dts_nil de_int) (db_cons (d1_for (vs := [4, 5]) (di_enu m_enumerate (de_var 1 rfl (.inl rfl))) (dg_tup (dgs_name 4 rfl (.inl rfl) (.inl rfl) (dgs_name 5 rfl (.inl rfl) (.inl rfl) dgs_nil))) (db_one (d1_if (dt_cmp cm_ne (de_var 5 rfl (.inl rfl)) de_int) (db_one (d1_for (vs := [6, 7]) (di_enu m_enumerate (de_var 2 rfl (.inl rfl))) (dg_tup (dgs_name 6 rfl (.inl rfl) (.inl rfl) (dgs_name 7 rfl (.inl rfl) (.inl rfl) dgs_nil))) (db_one (d1_put (de_add (de_ix (de_var 3 rfl (.inl rfl)) (de_add (de_var 4 rfl (.inl rfl)) (de_var 6 rfl (.inl rfl)))) (de_mul (de_var 5 rfl (.inl rfl)) (de_var 7 rfl (.inl rfl)))) (de_var 3 rfl (.inl rfl)) (de_add (de_var 4 rfl (.inl rfl)) (de_var 6 rfl (.inl rfl))))))) db_nil))) (db_one (d1_ret (de_call h_trimmed (by decide) (fun _ _ => Reps.nil) (da_cons (de_var 0 rfl (.inl rfl)) (da_cons (de_var 3 rfl (.inl rfl)) da_nil))))))))
theorem b_scaled_poly (M : Mo) (h_trimmed : Has M "trimmed" 1 P_trimmed [] (spD M.G 2 f_trimmed)) (W : WX) : DB M 1 W N_scaled_poly ⟨S_scaled_poly, S_scaled_poly⟩ (defBody (top 22)) n_scaled_poly :=
  (db_one (d1_ret (de_call h_trimmed (by decide) (fun _ _ => Reps.nil) (da_cons (de_var 0 rfl (.inl rfl)) (da_cons (de_fz (df_lc [("entry", 3)] (di_seq (de_var 1 rfl (.inl rfl))) (blkOk_by (by decide +kernel)) (dg_name 3 rfl (.inl rfl) (.inl rfl)) dts_nil (de_mul (de_var 2 rfl (.inr (.inl rfl))) (de_var 3 rfl (.inl rfl))))) da_nil)))))
theorem b_divided_in (M : Mo) (h_undone_number : Has M "undone_number" 1 P_undone_number [] (spD M.G 2 f_undone_number)) (h_trimmed : Has M "trimmed" 1 P_trimmed [] (spD M.G 2 f_trimmed)) (m_len : M.mg "len" = none) (m_range : M.mg "range" = none) (m_enumerate : M.mg "enumerate" = none) (W : WX) : DB M 1 W N_divided_in ⟨S_divided_in, S_divided_in⟩ (defBody (top 23)) n_divided_in :=
  (db_cons (d1_par2 6 7 rfl rfl (by decide) rfl rfl (da_cons (de_blt bl_len m_len (da_cons (de_var 2 rfl (.inl rfl)) da_nil)) (da_cons (de_call h_undone_number (by decide) (fun _ _ => Reps.nil) (da_cons (de_var 0 rfl (.inl rfl)) (da_cons (de_ix (de_var 2 rfl (.inl rfl)) (de_neg de_int)) da_nil))) da_nil))) (db_cons (d1_setLcH 3 rfl rfl [("number", 9)] (di_seq (de_var 1 rfl (.inl rfl))) (blkOk_by (by decide +kernel)) (dg_name 9 rfl (.inl rfl) (.inl rfl)) dts_nil (de_var 9 rfl (.inl rfl))) (db_cons (d1_setLcH 4 rfl rfl [("place", 5)] (di_rng1 m_range (da_cons (de_add (de_sub (de_blt bl_len m_len (da_cons (de_var 1 rfl (.inl rfl)) da_nil)) (de_var 6 rfl (.inl rfl))) de_int) da_nil)) (blkOk_by (by decide +kernel)) (dg_name 5 rfl (.inl rfl) (.inl rfl)) dts_nil de_int) (db_cons (d1_for (vs := [5]) (di_rng3 m_range (da_cons (de_sub (de_blt bl_len m_len (da_cons (de_var 1 rfl (.inl rfl)) da_nil)) (de_var 6 rfl (.inl rfl))) (da_cons (de_neg de_int) (da_cons (de_neg de_int) da_nil)))) (dg_name 5 rfl (.inl rfl) (.inl rfl)) (db_cons (d1_set 8 rfl (.inl rfl) (.inl rfl) (de_mod (de_mul (de_ix (de_var 3 rfl (.inl rfl)) (de_sub (de_add (de_var 5 rfl (.inl rfl)) (de_var 6 rfl (.inl rfl))) de_int)) (de_var 7 rfl (.inl rfl))) (de_var 0 rfl (.inl rfl)))) (db_cons (d1_put (de_var 8 rfl (.inl rfl)) (de_var 4 rfl (.inl rfl)) (de_var 5 rfl (.inl rfl))) (db_one (d1_if (dt_cmp cm_ne (de_var 8 rfl (.inl rfl)) de_int) (db_one (d1_for (vs := [10, 9]) (di_enu m_enumerate (de_var 2 rfl (.inl rfl))) (dg_tup (dgs_name 10 rfl (.inl rfl) (.inl rfl) (dgs_name 9 rfl (.inl rfl) (.inl rfl) dgs_nil))) (db_one (d1_put (de_mod (de_sub (de_ix (de_var 3 rfl (.inl rfl)) (de_add (de_var 5 rfl (.inl rfl)) (de_var 10 rfl (.inl rfl)))) (de_mul (de_var 8 rfl (.inl rfl)) (de_var 9 rfl (.inl rfl)))) (de_var 0 rfl (.inl rfl))) (de_var 3 rfl (.inl rfl)) (de_add (de_var 5 rfl (.inl rfl)) (de_var 10 rfl (.inl rfl))))))) db_nil))))) (db_one (d1_ret (de_tup (da_cons (de_call h_trimmed (by decide) (fun _ _ => Reps.nil) (da_cons (de_var 0 rfl (.inl rfl)) (da_cons (de_var 4 rfl (.inl rfl)) da_nil))) (da_cons (de_call h_trimmed (by decide) (fun _ _ => Reps.nil) (da_cons (de_var 0 rfl (.inl rfl)) (da_cons (de_var 3 rfl (.inl rfl)) da_nil))) da_nil)))))))))
theorem b_slope_of_poly (M : Mo) (h_trimmed : Has M "trimmed" 1 P_trimmed [] (spD M.G 2 f_trimmed)) (m_enumerate : M.mg "enumerate" = none) (W : WX) : DB M 1 W N_slope_of_poly ⟨S_slope_of_poly, S_slope_of_poly⟩ (defBody (top 28)) n_slope_of_poly :=
  (db_one (d1_ret (de_call h_trimmed (by decide) (fun _ _ => Reps.nil) (da_cons (de_var 0 rfl (.inl rfl)) (da_cons (de_fz (df_cutL (de_fz (df_lc [("place", 2), ("number", 3)] (di_enu m_enumerate (de_var 1 rfl (.inl rfl))) (blkOk_by (by decide +kernel)) (dg_tup (dgs_name 2 rfl (.inl rfl) (.inl rfl) (dgs_name 3 rfl (.inl rfl) (.inl rfl) dgs_nil))) dts_nil (de_mul (de_var 2 rfl (.inl rfl)) (de_var 3 rfl (.inl rfl))))) (do_at de_int) do_no)) da_nil)))))
theorem b__law_one_of (M : Mo) (h__law_grab : Has M "_law_grab" 1 P__law_grab [] (spD M.G 2 f__law_grab)) (m_len : M.mg "len" = none) (W : WX) : DB M 1 W N__law_one_of ⟨S__law_one_of, S__law_one_of⟩ (defBody (top 43)) n__law_one_of :=
  (db_one (d1_ret (de_ix (de_var 1 rfl (.inl rfl)) (de_callB h__law_grab (by decide) (fun _ _ => Reps.nil) (da_cons (de_var 0 rfl (.inl rfl)) (da_cons (de_blt bl_len m_len (da_cons (de_var 1 rfl (.inl rfl)) da_nil)) da_nil))))))
theorem b__law_poly_drawn (M : Mo) (h__law_grab : Has M "_law_grab" 1 P__law_grab [] (spD M.G 2 f__law_grab)) (m_range : M.mg "range" = none) (m_tuple : M.mg "tuple" = none) (W : WX) : DB M 1 W N__law_poly_drawn ⟨S__law_poly_drawn, S__law_poly_drawn⟩ (defBody (top 44)) n__law_poly_drawn :=
  (db_cons (d1_setLcH 3 rfl rfl [("turn", 4)] (di_rng1 m_range (da_cons (de_callB h__law_grab (by decide) (fun _ _ => Reps.nil) (da_cons (de_var 0 rfl (.inr (.inl rfl))) (da_cons (de_add (de_var 2 rfl (.inl rfl)) de_int) da_nil))) da_nil)) (blkOk_by (by decide +kernel)) (dg_name 4 rfl (.inl rfl) (.inl rfl)) dts_nil (de_callB h__law_grab (by decide) (fun _ _ => Reps.nil) (da_cons (de_var 0 rfl (.inr (.inl rfl))) (da_cons (de_var 1 rfl (.inr (.inl rfl))) da_nil)))) (db_cons (d1_while 100000 (dt_w (dw_and (dt_cmp cm_ne (de_var 3 rfl (.inl rfl)) (de_fz (df_lst da_nil))) (dw_and1 (dt_cmp cm_eq (de_ix (de_var 3 rfl (.inl rfl)) (de_neg de_int)) de_int)))) (db_one (d1_expr (de_pop (de_var 3 rfl (.inl rfl)))))) (db_one (d1_ret (de_bltT bl_tuple m_tuple (da_cons (de_var 3 rfl (.inl rfl)) da_nil))))))
theorem b__law_po_sum (M : Mo) (h__law_po_cut : Has M "_law_po_cut" 1 P__law_po_cut [] (spD M.G 1 f__law_po_cut)) (m_len : M.mg "len" = none) (m_max : M.mg "max" = none) (m_list : M.mg "list" = none) (m_zip : M.mg "zip" = none) (m_int : M.mg "int" = none) (W : WX) : DB M 1 W N__law_po_sum ⟨S__law_po_sum, S__law_po_sum⟩ (defBody (top 46)) n__law_po_sum :=
  (db_cons (d1_set 4 rfl (.inl rfl) (.inl rfl) (de_blt bl_max2 m_max (da_cons (de_blt bl_len m_len (da_cons (de_var 1 rfl (.inl rfl)) da_nil)) (da_cons (de_blt bl_len m_len (da_cons (de_var 2 rfl (.inl rfl)) da_nil)) da_nil)))) (db_cons (d1_par2 5 6 rfl rfl (by decide) rfl rfl (da_cons (de_fz (df_cat (de_fz (df_bltT bl_list m_list (da_cons (de_var 1 rfl (.inl rfl)) da_nil))) (de_fz (df_rep (de_fz (df_lst (da_cons de_int da_nil))) (de_sub (de_var 4 rfl (.inl rfl)) (de_blt bl_len m_len (da_cons (de_var 1 rfl (.inl rfl)) da_nil))))))) (da_cons (de_fz (df_cat (de_fz (df_bltT bl_list m_list (da_cons (de_var 2 rfl (.inl rfl)) da_nil))) (de_fz (df_rep (de_fz (df_lst (da_cons de_int da_nil))) (de_sub (de_var 4 rfl (.inl rfl)) (de_blt bl_len m_len (da_cons (de_var 2 rfl (.inl rfl)) da_nil))))))) da_nil))) (db_one (d1_ret (de_call h__law_po_cut (by decide) (fun _ _ => Reps.nil) (da_cons (de_fz (df_lc [("a", 7), ("b", 8)] (di_zip m_zip (da_cons (de_var 5 rfl (.inl rfl)) (da_cons (de_var 6 rfl (.inl rfl)) da_nil))) (blkOk_by (by decide +kernel)) (dg_tup (dgs_name 7 rfl (.inl rfl) (.inl rfl) (dgs_name 8 rfl (.inl rfl) (.inl rfl) dgs_nil))) dts_nil (de_mod (de_bltT bl_int m_int (da_cons (de_add (de_var 7 rfl (.inl rfl)) (de_mul (de_var 3 rfl (.inr (.inl rfl))) (de_var 8 rfl (.inl rfl)))) da_nil)) (de_var 0 rfl (.inr (.inl rfl)))))) da_nil))))))
theorem b__law_po_times (M : Mo) (h__law_po_cut : Has M "_law_po_cut" 1 P__law_po_cut [] (spD M.G 1 f__law_po_cut)) (m_int : M.mg "int" = none) (W : WX) : DB M 1 W N__law_po_times ⟨S__law_po_times, S__law_po_times⟩ (defBody (top 47)) n__law_po_times :=
  (db_one (d1_ret (de_call h__law_po_cut (by decide) (fun _ _ => Reps.nil) (da_cons (de_fz (df_lc [("entry", 3)] (di_seq (de_var 1 rfl (.inl rfl))) (blkOk_by (by decide +kernel)) (dg_name 3 rfl (.inl rfl) (.inl rfl)) dts_nil (de_mod (de_bltT bl_int m_int (da_cons (de_mul (de_var 2 rfl (.inr (.inl rfl))) (de_var 3 rfl (.inl rfl))) da_nil)) (de_var 0 rfl (.inr (.inl rfl)))))) da_nil))))
theorem b__law_po_product (M : Mo) (h__law_po_cut : Has M "_law_po_cut" 1 P__law_po_cut [] (spD M.G 1 f__law_po_cut)) (m_len : M.mg "len" = none) (m_enumerate : M.mg "enumerate" = none) (m_int : M.mg "int" = none) (W : WX) : DB M 1 W N__law_po_product ⟨S__law_po_product, S__law_po_product⟩ (defBody (top 48)) n__law_po_product :=
  (db_cons (d1_set 3 rfl (.inl rfl) (.inl rfl) (de_hnd (df_rep (de_fz (df_lst (da_cons de_int da_nil))) (de_add (de_blt bl_len m_len (da_cons (de_var 1 rfl (.inl rfl)) da_nil)) (de_blt bl_len m_len (da_cons (de_var 2 rfl (.inl rfl)) da_nil)))))) (db_cons (d1_for (vs := [4, 5]) (di_enu m_enumerate (de_var 1 rfl (.inl rfl))) (dg_tup (dgs_name 4 rfl (.inl rfl) (.inl rfl) (dgs_name 5 rfl (.inl rfl) (.inl rfl) dgs_nil))) (db_one (d1_if (dt_cmp cm_ne (de_var 5 rfl (.inl rfl)) de_int) (db_one (d1_for (vs := [6, 7]) (di_enu m_enumerate (de_var 2 rfl (.inl rfl))) (dg_tup (dgs_name 6 rfl (.inl rfl) (.inl rfl) (dgs_name 7 rfl (.inl rfl) (.inl rfl) dgs_nil))) (db_one (d1_put (de_add (de_ix (de_var 3 rfl (.inl rfl)) (de_add (de_var 4 rfl (.inl rfl)) (de_var 6 rfl (.inl rfl)))) (de_mul (de_var 5 rfl (.inl rfl)) (de_var 7 rfl (.inl rfl)))) (de_var 3 rfl (.inl rfl)) (de_add (de_var 4 rfl (.inl rfl)) (de_var 6 rfl (.inl rfl))))))) db_nil))) (db_one (d1_ret (de_call h__law_po_cut (by decide) (fun _ _ => Reps.nil) (da_cons (de_fz (df_lc [("entry", 8)] (di_seq (de_var 3 rfl (.inl rfl))) (blkOk_by (by decide +kernel)) (dg_name 8 rfl (.inl rfl) (.inl rfl)) dts_nil (de_mod (de_bltT bl_int m_int (da_cons (de_var 8 rfl (.inl rfl)) da_nil)) (de_var 0 rfl (.inr (.inl rfl)))))) da_nil))))))
theorem b__law_po_division (M : Mo) (h__law_po_inverse : Has M "_law_po_inverse" 1 P__law_po_inverse [] (spD M.G 2 f__law_po_inverse)) (h__law_po_cut : Has M "_law_po_cut" 1 P__law_po_cut [] (spD M.G 1 f__law_po_cut)) (m_list : M.mg "list" = none) (m_len : M.mg "len" = none) (m_max : M.mg "max" = none) (m_range : M.mg "range" = none) (m_int : M.mg "int" = none) (m_enumerate : M.mg "enumerate" = none) (W : WX) : DB M 1 W N__law_po_division ⟨S__law_po_division, S__law_po_division⟩ (defBody (top 50)) n__law_po_division :=
  (db_cons (d1_par2 6 7 rfl rfl (by decide) rfl rfl (da_cons (de_hnd (df_bltT bl_list m_list (da_cons (de_var 1 rfl (.inl rfl)) da_nil))) (da_cons (de_blt bl_len m_len (da_cons (de_var 2 rfl (.inl rfl)) da_nil)) da_nil))) (db_cons (d1_set 3 rfl (.inl rfl) (.inl rfl) (de_hnd (df_rep (de_fz (df_lst (da_cons de_int da_nil))) (de_blt bl_max2 m_max (da_cons de_int (da_cons (de_add (de_sub (de_blt bl_len m_len (da_cons (de_var 6 rfl (.inl rfl)) da_nil)) (de_var 7 rfl (.inl rfl))) de_int) da_nil)))))) (db_cons (d1_set 4 rfl (.inl rfl) (.inl rfl) (de_call h__law_po_inverse (by decide) (fun _ _ => Reps.nil) (da_cons (de_var 0 rfl (.inl rfl)) (da_cons (de_ix (de_var 2 rfl (.inl rfl)) (de_sub (de_var 7 rfl (.inl rfl)) de_int)) da_nil)))) (db_cons (d1_for (vs := [5]) (di_rng1 m_range (da_cons (de_blt bl_len m_len (da_cons (de_var 3 rfl (.inl rfl)) da_nil)) da_nil)) (dg_name 5 rfl (.inl rfl) (.inl rfl)) (db_cons (d1_set 8 rfl (.inl rfl) (.inl rfl) (de_sub (de_sub (de_blt bl_len m_len (da_cons (de_var 3 rfl (.inl rfl)) da_nil)) de_int) (de_var 5 rfl (.inl rfl)))) (db_cons (d1_set 9 rfl (.inl rfl) (.inl rfl) (de_mod (de_bltT bl_int m_int (da_cons (de_mul (de_ix (de_var 6 rfl (.inl rfl)) (de_sub (de_add (de_var 8 rfl (.inl rfl)) (de_var 7 rfl (.inl rfl))) de_int)) (de_var 4 rfl (.inl rfl))) da_nil)) (de_var 0 rfl (.inl rfl)))) (db_cons (d1_put (de_var 9 rfl (.inl rfl)) (de_var 3 rfl (.inl rfl)) (de_var 8 rfl (.inl rfl))) (db_one (d1_if (dt_cmp cm_ne (de_var 9 rfl (.inl rfl)) de_int) (db_one (d1_for (vs := [10, 11]) (di_enu m_enumerate (de_var 2 rfl (.inl rfl))) (dg_tup (dgs_name 10 rfl (.inl rfl) (.inl rfl) (dgs_name 11 rfl (.inl rfl) (.inl rfl) dgs_nil))) (db_one (d1_put (de_mod (de_bltT bl_int m_int (da_cons (de_sub (de_ix (de_var 6 rfl (.inl rfl)) (de_add (de_var 8 rfl (.inl rfl)) (de_var 10 rfl (.inl rfl)))) (de_mul (de_var 9 rfl (.inl rfl)) (de_var 11 rfl (.inl rfl)))) da_nil)) (de_var 0 rfl (.inl rfl))) (de_var 6 rfl (.inl rfl)) (de_add (de_var 8 rfl (.inl rfl)) (de_var 10 rfl (.inl rfl))))))) db_nil)))))) (db_one (d1_ret (de_tup (da_cons (de_call h__law_po_cut (by decide) (fun _ _ => Reps.nil) (da_cons (de_var 3 rfl (.inl rfl)) da_nil)) (da_cons (de_call h__law_po_cut (by decide) (fun _ _ => Reps.nil) (da_cons (de_var 6 rfl (.inl rfl)) da_nil)) da_nil)))))))))
theorem b__law_po_slope (M : Mo) (h__law_po_cut : Has M "_law_po_cut" 1 P__law_po_cut [] (spD M.G 1 f__law_po_cut)) (m_enumerate : M.mg "enumerate" = none) (m_int : M.mg "int" = none) (W : WX) : DB M 1 W N__law_po_slope ⟨S__law_po_slope, S__law_po_slope⟩ (defBody (top 53)) n__law_po_slope :=
  (db_one (d1_ret (de_call h__law_po_cut (by decide) (fun _ _ => Reps.nil) (da_cons (de_fz (df_cutL (de_fz (df_lc [("at", 2), ("entry", 3)] (di_enu m_enumerate (de_var 1 rfl (.inl rfl))) (blkOk_by (by decide +kernel)) (dg_tup (dgs_name 2 rfl (.inl rfl) (.inl rfl) (dgs_name 3 rfl (.inl rfl) (.inl rfl) dgs_nil))) dts_nil (de_mod (de_bltT bl_int m_int (da_cons (de_mul (de_var 2 rfl (.inl rfl)) (de_var 3 rfl (.inl rfl))) da_nil)) (de_var 0 rfl (.inr (.inl rfl)))))) (do_at de_int) do_no)) da_nil))))
theorem b_require_within (M : Mo) (h_is_within : Has M "is_within" 2 P_is_within [] (spD M.G 3 f_is_within)) (W : WX) : DB M 2 W N_require_within ⟨S_require_within, S_require_within⟩ (defBody (top 12)) n_require_within :=
  (db_one (d1_if (dt_not (dt_val (de_call h_is_within (by decide) (fun _ _ => Reps.nil) (da_cons (de_var 0 rfl (.inl rfl)) (da_cons (de_var 1 rfl (.inl rfl)) (da_cons (de_var 2 rfl (.inl rfl)) da_nil)))))) (db_one d1_never) db_nil))
theorem b_require_integer (M : Mo) (h_is_integer : Has M "is_integer" 2 P_is_integer [] (spD M.G 1 f_is_integer)) (W : WX) : DB M 2 W N_require_integer ⟨S_require_integer, S_require_integer⟩ (defBody (top 13)) n_require_integer :=
  (db_one (d1_if (dt_not (dt_val (de_call h_is_integer (by decide) (fun _ _ => Reps.nil) (da_cons (de_var 0 rfl (.inl rfl)) da_nil)))) (db_one d1_never) db_nil))
theorem b_is_poly_any (M : Mo) (h_is_within : Has M "is_within" 2 P_is_within [] (spD M.G 3 f_is_within)) (m_tuple : M.mg "tuple" = none) (m_isinstance : M.mg "isinstance" = none) (m_all : M.mg "all" = none) (W : WX) : DB M 2 W N_is_poly_any ⟨S_is_poly_any, S_is_poly_any⟩ (defBody (top 16)) n_is_poly_any :=
  (db_cons (d1_if (dt_w (dw_or (dt_not (dt_val (de_blt bl_isi m_isinstance (da_cons (de_var 1 rfl (.inl rfl)) (da_cons (de_ty m_tuple (by decide +kernel)) da_nil))))) (dw_or1 (dt_not (dt_val (de_blt bl_all m_all (da_cons (de_fz (df_lc [("number", 2)] (di_seq (de_var 1 rfl (.inl rfl))) (blkOk_by (by decide +kernel)) (dg_name 2 rfl (.inl rfl) (.inl rfl)) dts_nil (de_call h_is_within (by decide) (fun _ _ => Reps.nil) (da_cons (de_var 2 rfl (.inl rfl)) (da_cons de_int (da_cons (de_sub (de_var 0 rfl (.inr (.inl rfl))) de_int) da_nil)))))) da_nil))))))) (db_one (d1_ret de_bl)) db_nil) (db_one (d1_ret (de_or (de_cmp cm_eq (de_var 1 rfl (.inl rfl)) (de_tup da_nil)) (de_one (de_cmp cm_ne (de_ix (de_var 1 rfl (.inl rfl)) (de_neg de_int)) de_int))))))
theorem b_monic_in (M : Mo) (h_undone_number : Has M "undone_number" 1 P_undone_number [] (spD M.G 2 f_undone_number)) (h_scaled_poly : Has M "scaled_poly" 2 P_scaled_poly [] (spD M.G 3 f_scaled_poly)) (W : WX) : DB M 2 W N_monic_in ⟨S_monic_in, S_monic_in⟩ (defBody (top 24)) n_monic_in :=
  (db_one (d1_ret (de_if (dt_cmp cm_ne (de_var 1 rfl (.inl rfl)) (de_tup da_nil)) (de_call h_scaled_poly (by decide) (fun _ _ => Reps.nil) (da_cons (de_var 0 rfl (.inl rfl)) (da_cons (de_var 1 rfl (.inl rfl)) (da_cons (de_call h_undone_number (by decide) (fun _ _ => Reps.nil) (da_cons (de_var 0 rfl (.inl rfl)) (da_cons (de_ix (de_var 1 rfl (.inl rfl)) (de_neg de_int)) da_nil))) da_nil)))) (de_tup da_nil))))
theorem b_paper_in (M : Mo) (h_divided_in : Has M "divided_in" 2 P_divided_in [] (spD M.G 3 f_divided_in)) (h_times_in : Has M "times_in" 2 P_times_in [] (spD M.G 3 f_times_in)) (h_plus_in : Has M "plus_in" 2 P_plus_in [] (spD M.G 4 f_plus_in)) (h_undone_number : Has M "undone_number" 1 P_undone_number [] (spD M.G 2 f_undone_number)) (h_scaled_poly : Has M "scaled_poly" 2 P_scaled_poly [] (spD M.G 3 f_scaled_poly)) (m_tuple : M.mg "tuple" = none) (W : WX) : DB M 2 W N_paper_in ⟨S_paper_in, S_paper_in⟩ (defBody (top 26)) n_paper_in :=
  (db_cons (d1_asg (vs := [4, 5, 6, 7, 8, 9]) (de_tup (da_cons (de_var 1 rfl (.inl rfl)) (da_cons (de_var 2 rfl (.inl rfl)) (da_cons (de_tup (da_cons de_int da_nil)) (da_cons (de_tup da_nil) (da_cons (de_tup da_nil) (da_cons (de_tup (da_cons de_int da_nil)) da_nil))))))) (dg_tup (dgs_name 4 rfl (.inl rfl) (.inl rfl) (dgs_name 5 rfl (.inl rfl) (.inl rfl) (dgs_name 6 rfl (.inl rfl) (.inl rfl) (dgs_name 7 rfl (.inl rfl) (.inl rfl) (dgs_name 8 rfl (.inl rfl) (.inl rfl) (dgs_name 9 rfl (.inl rfl) (.inl rfl) dgs_nil)))))))) (db_cons (d1_while 100000 (dt_cmp cm_ne (de_var 5 rfl (.inl rfl)) (de_tup da_nil)) (db_cons (d1_asg (vs := [10, 11]) (de_call h_divided_in (by decide) (fun _ _ => Reps.nil) (da_cons (de_var 0 rfl (.inr (.inl rfl))) (da_cons (de_var 4 rfl (.inl rfl)) (da_cons (de_var 5 rfl (.inl rfl)) da_nil)))) (dg_tup (dgs_name 10 rfl (.inl rfl) (.inl rfl) (dgs_name 11 rfl (.inl rfl) (.inl rfl) dgs_nil)))) (db_cons (d1_par2 4 5 rfl rfl (by decide) rfl rfl (da_cons (de_var 5 rfl (.inl rfl)) (da_cons (de_var 11 rfl (.inl rfl)) da_nil))) (db_cons (d1_par2 6 8 rfl rfl (by decide) rfl rfl (da_cons (de_var 8 rfl (.inl rfl)) (da_cons (de_call h_plus_in (by decide) (fun _ _ => Reps.nil) (da_cons (de_var 0 rfl (.inr (.inl rfl))) (da_cons (de_var 6 rfl (.inl rfl)) (da_cons (de_call h_times_in (by decide) (fun _ _ => Reps.nil) (da_cons (de_var 0 rfl (.inr (.inl rfl))) (da_cons (de_var 10 rfl (.inl rfl)) (da_cons (de_var 8 rfl (.inl rfl)) da_nil)))) (da_cons (de_neg de_int) da_nil))))) da_nil))) (db_one (d1_par2 7 9 rfl rfl (by decide) rfl rfl (da_cons (de_var 9 rfl (.inl rfl)) (da_cons (de_call h_plus_in (by decide) (fun _ _ => Reps.nil) (da_cons (de_var 0 rfl (.inr (.inl rfl))) (da_cons (de_var 7 rfl (.inl rfl)) (da_cons (de_call h_times_in (by decide) (fun _ _ => Reps.nil) (da_cons (de_var 0 rfl (.inr (.inl rfl))) (da_cons (de_var 10 rfl (.inl rfl)) (da_cons (de_var 9 rfl (.inl rfl)) da_nil)))) (da_cons (de_neg de_int) da_nil))))) da_nil)))))))) (db_cons (d1_if (dt_cmp cm_eq (de_var 4 rfl (.inl rfl)) (de_tup da_nil)) (db_one (d1_ret (de_tup (da_cons (de_tup da_nil) (da_cons (de_tup da_nil) (da_cons (de_tup da_nil) da_nil)))))) db_nil) (db_cons (d1_set 3 rfl (.inr rfl) (.inr rfl) (de_call h_undone_number (by decide) (fun _ _ => Reps.nil) (da_cons (de_var 0 rfl (.inr (.inl rfl))) (da_cons (de_ix (de_var 4 rfl (.inl rfl)) (de_neg de_int)) da_nil)))) (db_one (d1_ret (de_bltT bl_tuple m_tuple (da_cons (de_fz (df_lc [("poly", 12)] (di_seq (de_tup (da_cons (de_var 4 rfl (.inl rfl)) (da_cons (de_var 6 rfl (.inl rfl)) (da_cons (de_var 7 rfl (.inl rfl)) da_nil))))) (blkOk_by (by decide +kernel)) (dg_name 12 rfl (.inl rfl) (.inl rfl)) dts_nil (de_call h_scaled_poly (by decide) (fun _ _ => Reps.nil) (da_cons (de_var 0 rfl (.inr (.inl rfl))) (da_cons (de_var 12 rfl (.inl rfl)) (da_cons (de_var 3 rfl (.inr (.inl rfl))) da_nil)))))) da_nil))))))))
theorem b_raised_in (M : Mo) (h_times_in : Has M "times_in" 2 P_times_in [] (spD M.G 3 f_times_in)) (W : WX) : DB M 2 W N_raised_in ⟨S_raised_in, S_raised_in⟩ (defBody (top 27)) n_raised_in :=
  (db_cons (d1_par3 3 4 5 rfl rfl rfl (by decide) (by decide) (by decide) rfl rfl rfl (da_cons (de_tup (da_cons de_int da_nil)) (da_cons (de_var 1 rfl (.inl rfl)) (da_cons (de_var 2 rfl (.inl rfl)) da_nil)))) (db_cons (d1_while 100000 (dt_cmp cm_gt (de_var 5 rfl (.inl rfl)) de_int) (db_cons (d1_if (dt_cmp cm_eq (de_mod (de_var 5 rfl (.inl rfl)) de_int) de_int) (db_one (d1_set 3 rfl (.inl rfl) (.inl rfl) (de_call h_times_in (by decide) (fun _ _ => Reps.nil) (da_cons (de_var 0 rfl (.inl rfl)) (da_cons (de_var 3 rfl (.inl rfl)) (da_cons (de_var 4 rfl (.inl rfl)) da_nil)))))) db_nil) (db_one (d1_par2 4 5 rfl rfl (by decide) rfl rfl (da_cons (de_if (dt_cmp cm_gt (de_var 5 rfl (.inl rfl)) de_int) (de_call h_times_in (by decide) (fun _ _ => Reps.nil) (da_cons (de_var 0 rfl (.inl rfl)) (da_cons (de_var 4 rfl (.inl rfl)) (da_cons (de_var 4 rfl (.inl rfl)) da_nil)))) (de_var 4 rfl (.inl rfl))) (da_cons (de_fdiv (de_var 5 rfl (.inl rfl)) de_int) da_nil)))))) (db_one (d1_ret (de_var 3 rfl (.inl rfl))))))
theorem b__law_po_monic (M : Mo) (h__law_po_inverse : Has M "_law_po_inverse" 1 P__law_po_inverse [] (spD M.G 2 f__law_po_inverse)) (h__law_po_times : Has M "_law_po_times" 2 P__law_po_times [] (spD M.G 3 f__law_po_times)) (m_len : M.mg "len" = none) (W : WX) : DB M 2 W N__law_po_monic ⟨S__law_po_monic, S__law_po_monic⟩ (defBody (top 51)) n__law_po_monic :=
  (db_one (d1_ret (de_if (dt_cmp cm_ne (de_var 1 rfl (.inl rfl)) (de_tup da_nil)) (de_call h__law_po_times (by decide) (fun _ _ => Reps.nil) (da_cons (de_var 0 rfl (.inl rfl)) (da_cons (de_var 1 rfl (.inl rfl)) (da_cons (de_call h__law_po_inverse (by decide) (fun _ _ => Reps.nil) (da_cons (de_var 0 rfl (.inl rfl)) (da_cons (de_ix (de_var 1 rfl (.inl rfl)) (de_sub (de_blt bl_len m_len (da_cons (de_var 1 rfl (.inl rfl)) da_nil)) de_int)) da_nil))) da_nil)))) (de_tup da_nil))))
theorem b__law_po_power (M : Mo) (h__law_po_product : Has M "_law_po_product" 2 P__law_po_product [] (spD M.G 3 f__law_po_product)) (m_range : M.mg "range" = none) (W : WX) : DB M 2 W N__law_po_power ⟨S__law_po_power, S__law_po_power⟩ (defBody (top 54)) n__law_po_power :=
  (db_cons (d1_set 3 rfl (.inl rfl) (.inl rfl) (de_tup (da_cons de_int da_nil))) (db_cons (d1_for (vs := [4]) (di_rng1 m_range (da_cons (de_var 2 rfl (.inl rfl)) da_nil)) (dg_name 4 rfl (.inl rfl) (.inl rfl)) (db_one (d1_set 3 rfl (.inl rfl) (.inl rfl) (de_call h__law_po_product (by decide) (fun _ _ => Reps.nil) (da_cons (de_var 0 rfl (.inl rfl)) (da_cons (de_var 3 rfl (.inl rfl)) (da_cons (de_var 1 rfl (.inl rfl)) da_nil))))))) (db_one (d1_ret (de_var 3 rfl (.inl rfl))))))
theorem b_require_poly (M : Mo) (h_is_poly_any : Has M "is_poly_any" 3 P_is_poly_any [] (spD M.G 2 f_is_poly_any)) (m_len : M.mg "len" = none) (g_MAX_POWER : Glb M "MAX_POWER" c_MAX_POWER) (W : WX) : DB M 3 W N_require_poly ⟨S_require_poly, S_require_poly⟩ (defBody (top 17)) n_require_poly :=
  (db_one (d1_if (dt_w (dw_or (dt_not (dt_val (de_call h_is_poly_any (by decide) (fun _ _ => Reps.nil) (da_cons (de_var 0 rfl (.inl rfl)) (da_cons (de_var 1 rfl (.inl rfl)) da_nil))))) (dw_or1 (dt_cmp cm_gt (de_blt bl_len m_len (da_cons (de_var 1 rfl (.inl rfl)) da_nil)) (de_add (de_glob g_MAX_POWER) de_int))))) (db_one d1_never) db_nil))
theorem b_common_in (M : Mo) (h_divided_in : Has M "divided_in" 2 P_divided_in [] (spD M.G 3 f_divided_in)) (h_monic_in : Has M "monic_in" 3 P_monic_in [] (spD M.G 2 f_monic_in)) (W : WX) : DB M 3 W N_common_in ⟨S_common_in, S_common_in⟩ (defBody (top 25)) n_common_in :=
  (db_cons (d1_while 100000 (dt_cmp cm_ne (de_var 2 rfl (.inl rfl)) (de_tup da_nil)) (db_one (d1_par2 1 2 rfl rfl (by decide) rfl rfl (da_cons (de_var 2 rfl (.inl rfl)) (da_cons (de_ix (de_call h_divided_in (by decide) (fun _ _ => Reps.nil) (da_cons (de_var 0 rfl (.inl rfl)) (da_cons (de_var 1 rfl (.inl rfl)) (da_cons (de_var 2 rfl (.inl rfl)) da_nil)))) de_int) da_nil))))) (db_one (d1_ret (de_call h_monic_in (by decide) (fun _ _ => Reps.nil) (da_cons (de_var 0 rfl (.inl rfl)) (da_cons (de_var 1 rfl (.inl rfl)) da_nil))))))
theorem b_is_poly (M : Mo) (h_require_prime : Has M "require_prime" 2 P_require_prime [] (spD M.G 1 f_require_prime)) (h_is_poly_any : Has M "is_poly_any" 3 P_is_poly_any [] (spD M.G 2 f_is_poly_any)) (m_len : M.mg "len" = none) (g_MAX_POWER : Glb M "MAX_POWER" c_MAX_POWER) (W : WX) : DB M 3 W N_is_poly ⟨S_is_poly, S_is_poly⟩ (defBody (top 31)) n_is_poly :=
  (db_cons (d1_expr (de_call h_require_prime (by decide) (fun _ _ => Reps.nil) (da_cons (de_var 0 rfl (.inl rfl)) da_nil))) (db_one (d1_ret (de_and (de_call h_is_poly_any (by decide) (fun _ _ => Reps.nil) (da_cons (de_var 0 rfl (.inl rfl)) (da_cons (de_var 1 rfl (.inl rfl)) da_nil))) (de_one (de_cmp cm_le (de_blt bl_len m_len (da_cons (de_var 1 rfl (.inl rfl)) da_nil)) (de_add (de_glob g_MAX_POWER) de_int)))))))
theorem b__law_po_common (M : Mo) (h__law_po_division : Has M "_law_po_division" 2 P__law_po_division [] (spD M.G 3 f__law_po_division)) (h__law_po_monic : Has M "_law_po_monic" 3 P__law_po_monic [] (spD M.G 2 f__law_po_monic)) (m_len : M.mg "len" = none) (m_range : M.mg "range" = none) (W : WX) : DB M 3 W N__law_po_common ⟨S__law_po_common, S__law_po_common⟩ (defBody (top 52)) n__law_po_common :=
  (db_cons (d1_for (vs := [3]) (di_rng1 m_range (da_cons (de_add (de_add (de_blt bl_len m_len (da_cons (de_var 1 rfl (.inl rfl)) da_nil)) (de_blt bl_len m_len (da_cons (de_var 2 rfl (.inl rfl)) da_nil))) de_int) da_nil)) (dg_name 3 rfl (.inl rfl) (.inl rfl)) (db_cons (d1_if (dt_cmp cm_eq (de_var 2 rfl (.inl rfl)) (de_tup da_nil)) (db_one d1_break) db_nil) (db_one (d1_par2 1 2 rfl rfl (by decide) rfl rfl (da_cons (de_var 2 rfl (.inl rfl)) (da_cons (de_ix (de_call h__law_po_division (by decide) (fun _ _ => Reps.nil) (da_cons (de_var 0 rfl (.inl rfl)) (da_cons (de_var 1 rfl (.inl rfl)) (da_cons (de_var 2 rfl (.inl rfl)) da_nil)))) de_int) da_nil)))))) (db_one (d1_ret (de_call h__law_po_monic (by decide) (fun _ _ => Reps.nil) (da_cons (de_var 0 rfl (.inl rfl)) (da_cons (de_var 1 rfl (.inl rfl)) da_nil))))))
theorem b_require_two (M : Mo) (h_require_prime : Has M "require_prime" 2 P_require_prime [] (spD M.G 1 f_require_prime)) (h_require_poly : Has M "require_poly" 4 P_require_poly [] (spD M.G 2 f_require_poly)) (W : WX) : DB M 4 W N_require_two ⟨S_require_two, S_require_two⟩ (defBody (top 30)) n_require_two :=
  (db_cons (d1_expr (de_call h_require_prime (by decide) (fun _ _ => Reps.nil) (da_cons (de_var 0 rfl (.inl rfl)) da_nil))) (db_cons (d1_expr (de_call h_require_poly (by decide) (fun _ _ => Reps.nil) (da_cons (de_var 0 rfl (.inl rfl)) (da_cons (de_var 1 rfl (.inl rfl)) da_nil)))) (db_one (d1_expr (de_call h_require_poly (by decide) (fun _ _ => Reps.nil) (da_cons (de_var 0 rfl (.inl rfl)) (da_cons (de_var 2 rfl (.inl rfl)) da_nil)))))))
theorem b_poly_power (M : Mo) (h_require_prime : Has M "require_prime" 2 P_require_prime [] (spD M.G 1 f_require_prime)) (h_require_poly : Has M "require_poly" 4 P_require_poly [] (spD M.G 2 f_require_poly)) (h_require_within : Has M "require_within" 3 P_require_within [] (spD M.G 3 f_require_within)) (h_raised_in : Has M "raised_in" 3 P_raised_in [] (spD M.G 3 f_raised_in)) (g_MAX_POWER : Glb M "MAX_POWER" c_MAX_POWER) (W : WX) : DB M 4 W N_poly_power ⟨S_poly_power, S_poly_power⟩ (defBody (top 37)) n_poly_power :=
  (db_cons (d1_expr (de_call h_require_prime (by decide) (fun _ _ => Reps.nil) (da_cons (de_var 0 rfl (.inl rfl)) da_nil))) (db_cons (d1_expr (de_call h_require_poly (by decide) (fun _ _ => Reps.nil) (da_cons (de_var 0 rfl (.inl rfl)) (da_cons (de_var 1 rfl (.inl rfl)) da_nil)))) (db_cons (d1_expr (de_call h_require_within (by decide) (fun _ _ => Reps.nil) (da_cons (de_var 2 rfl (.inl rfl)) (da_cons de_int (da_cons (de_glob g_MAX_POWER) da_nil))))) (db_one (d1_ret (de_call h_raised_in (by decide) (fun _ _ => Reps.nil) (da_cons (de_var 0 rfl (.inl rfl)) (da_cons (de_var 1 rfl (.inl rfl)) (da_cons (de_var 2 rfl (.inl rfl)) da_nil)))))))))
theorem b_poly_slope (M : Mo) (h_require_prime : Has M "require_prime" 2 P_require_prime [] (spD M.G 1 f_require_prime)) (h_require_poly : Has M "require_poly" 4 P_require_poly [] (spD M.G 2 f_require_poly)) (h_slope_of_poly : Has M "slope_of_poly" 2 P_slope_of_poly [] (spD M.G 2 f_slope_of_poly)) (W : WX) : DB M 4 W N_poly_slope ⟨S_poly_slope, S_poly_slope⟩ (defBody (top 38)) n_poly_slope :=
  (db_cons (d1_expr (de_call h_require_prime (by decide) (fun _ _ => Reps.nil) (da_cons (de_var 0 rfl (.inl rfl)) da_nil))) (db_cons (d1_expr (de_call h_require_poly (by decide) (fun _ _ => Reps.nil) (da_cons (de_var 0 rfl (.inl rfl)) (da_cons (de_var 1 rfl (.inl rfl)) da_nil)))) (db_one (d1_ret (de_call h_slope_of_poly (by decide) (fun _ _ => Reps.nil) (da_cons (de_var 0 rfl (.inl rfl)) (da_cons (de_var 1 rfl (.inl rfl)) da_nil)))))))
theorem b_poly_at (M : Mo) (h_require_prime : Has M "require_prime" 2 P_require_prime [] (spD M.G 1 f_require_prime)) (h_require_poly : Has M "require_poly" 4 P_require_poly [] (spD M.G 2 f_require_poly)) (h_require_integer : Has M "require_integer" 3 P_require_integer [] (spD M.G 1 f_require_integer)) (h_value_in : Has M "value_in" 1 P_value_in [] (spD M.G 3 f_value_in)) (W : WX) : DB M 4 W N_poly_at ⟨S_poly_at, S_poly_at⟩ (defBody (top 39)) n_poly_at :=
  (db_cons (d1_expr (de_call h_require_prime (by decide) (fun _ _ => Reps.nil) (da_cons (de_var 0 rfl (.inl rfl)) da_nil))) (db_cons (d1_expr (de_call h_require_poly (by decide) (fun _ _ => Reps.nil) (da_cons (de_var 0 rfl (.inl rfl)) (da_cons (de_var 1 rfl (.inl rfl)) da_nil)))) (db_cons (d1_expr (de_call h_require_integer (by decide) (fun _ _ => Reps.nil) (da_cons (de_var 2 rfl (.inl rfl)) da_nil))) (db_one (d1_ret (de_call h_value_in (by decide) (fun _ _ => Reps.nil) (da_cons (de_var 0 rfl (.inl rfl)) (da_cons (de_var 1 rfl (.inl rfl)) (da_cons (de_var 2 rfl (.inl rfl)) da_nil)))))))))
theorem b__law_is_paper_right (M : Mo) (h__law_po_common : Has M "_law_po_common" 4 P__law_po_common [] (spD M.G 3 f__law_po_common)) (h__law_po_cut : Has M "_law_po_cut" 1 P__law_po_cut [] (spD M.G 1 f__law_po_cut)) (h__law_po_product : Has M "_law_po_product" 2 P__law_po_product [] (spD M.G 3 f__law_po_product)) (h__law_po_sum : Has M "_law_po_sum" 2 P__law_po_sum [] (spD M.G 4 f__law_po_sum)) (m_tuple : M.mg "tuple" = none) (m_isinstance : M.mg "isinstance" = none) (m_len : M.mg "len" = none) (m_int : M.mg "int" = none) (W : WX) : DB M 4 W N__law_is_paper_right ⟨S__law_is_paper_right, S__law_is_paper_right⟩ (defBody (top 57)) n__law_is_paper_right :=
  (db_cons (d1_if (dt_w (dw_or (dt_not (dt_val (de_blt bl_isi m_isinstance (da_cons (de_var 3 rfl (.inl rfl)) (da_cons (de_ty m_tuple (by decide +kernel)) da_nil))))) (dw_or (dt_cmp cm_ne (de_blt bl_len m_len (da_cons (de_var 3 rfl (.inl rfl)) da_nil)) de_int) (dw_or1 (dt_cmp cm_ne (de_ix (de_var 3 rfl (.inl rfl)) de_int) (de_call h__law_po_common (by decide) (fun _ _ => Reps.nil) (da_cons (de_var 0 rfl (.inr (.inl rfl))) (da_cons (de_var 1 rfl (.inl rfl)) (da_cons (de_var 2 rfl (.inl rfl)) da_nil))))))))) (db_one (d1_ret de_bl)) db_nil) (db_cons (d1_asg (vs := [5, 6, 7]) (de_var 3 rfl (.inl rfl)) (dg_tup (dgs_name 5 rfl (.inl rfl) (.inl rfl) (dgs_name 6 rfl (.inl rfl) (.inl rfl) (dgs_name 7 rfl (.inl rfl) (.inl rfl) dgs_nil))))) (db_cons (d1_if (dt_cmp cm_ne (de_fz (df_lc [("poly", 8)] (di_seq (de_var 3 rfl (.inl rfl))) (blkOk_by (by decide +kernel)) (dg_name 8 rfl (.inl rfl) (.inl rfl)) (dts_one (dt_w (dw_or (dt_not (dt_val (de_blt bl_isi m_isinstance (da_cons (de_var 8 rfl (.inl rfl)) (da_cons (de_ty m_tuple (by decide +kernel)) da_nil))))) (dw_or1 (dt_cmp cm_ne (de_call h__law_po_cut (by decide) (fun _ _ => Reps.nil) (da_cons (de_fz (df_lc [("entry", 9)] (di_seq (de_var 8 rfl (.inl rfl))) (blkOk_by (by decide +kernel)) (dg_name 9 rfl (.inl rfl) (.inl rfl)) dts_nil (de_mod (de_bltT bl_int m_int (da_cons (de_var 9 rfl (.inl rfl)) da_nil)) (de_var 0 rfl (.inr (.inl rfl)))))) da_nil)) (de_var 8 rfl (.inl rfl))))))) (de_var 8 rfl (.inl rfl)))) (de_fz (df_lst da_nil))) (db_one (d1_ret de_bl)) db_nil) (db_cons (d1_set 4 rfl (.inl rfl) (.inl rfl) (de_call h__law_po_sum (by decide) (fun _ _ => Reps.nil) (da_cons (de_var 0 rfl (.inr (.inl rfl))) (da_cons (de_call h__law_po_product (by decide) (fun _ _ => Reps.nil) (da_cons (de_var 0 rfl (.inr (.inl rfl))) (da_cons (de_var 6 rfl (.inl rfl)) (da_cons (de_var 1 rfl (.inl rfl)) da_nil)))) (da_cons (de_call h__law_po_product (by decide) (fun _ _ => Reps.nil) (da_cons (de_var 0 rfl (.inr (.inl rfl))) (da_cons (de_var 7 rfl (.inl rfl)) (da_cons (de_var 2 rfl (.inl rfl)) da_nil)))) (da_cons de_int da_nil)))))) (db_cons (d1_if (dt_w (dw_or (dt_cmp cm_ne (de_var 4 rfl (.inl rfl)) (de_var 5 rfl (.inl rfl))) (dw_or (dt_w (dw_and (dt_cmp cm_eq (de_var 1 rfl (.inl rfl)) (de_tup da_nil)) (dw_and1 (dt_cmp cm_ne (de_var 6 rfl (.inl rfl)) (de_tup da_nil))))) (dw_or1 (dt_w (dw_and (dt_cmp cm_eq (de_var 2 rfl (.inl rfl)) (de_tup da_nil)) (dw_and1 (dt_cmp cm_ne (de_var 7 rfl (.inl rfl)) (de_tup da_nil))))))))) (db_one (d1_ret de_bl)) db_nil) (db_cons (d1_if (dt_w (dw_or (dt_cmp cm_eq (de_var 1 rfl (.inl rfl)) (de_tup da_nil)) (dw_or1 (dt_cmp cm_eq (de_var 2 rfl (.inl rfl)) (de_tup da_nil))))) (db_one (d1_ret de_bl)) db_nil) (db_one (d1_ret (de_cmp cm_le (de_blt bl_len m_len (da_cons (de_var 6 rfl (.inl rfl)) da_nil)) (de_sub (de_blt bl_len m_len (da_cons (de_var 2 rfl (.inl rfl)) da_nil)) (de_blt bl_len m_len (da_cons (de_var 5 rfl (.inl rfl)) da_nil))))))))))))
theorem b_poly_sum (M : Mo) (h_require_two : Has M "require_two" 5 P_require_two [] (spD M.G 3 f_require_two)) (h_require_integer : Has M "require_integer" 3 P_require_integer [] (spD M.G 1 f_require_integer)) (h_plus_in : Has M "plus_in" 2 P_plus_in [] (spD M.G 4 f_plus_in)) (W : WX) : DB M 5 W N_poly_sum ⟨S_poly_sum, S_poly_sum⟩ (defBody (top 32)) n_poly_sum :=
  (db_cons (d1_expr (de_call h_require_two (by decide) (fun _ _ => Reps.nil) (da_cons (de_var 0 rfl (.inl rfl)) (da_cons (de_var 1 rfl (.inl rfl)) (da_cons (de_var 2 rfl (.inl rfl)) da_nil))))) (db_cons (d1_expr (de_call h_require_integer (by decide) (fun _ _ => Reps.nil) (da_cons (de_var 3 rfl (.inl rfl)) da_nil))) (db_one (d1_ret (de_call h_plus_in (by decide) (fun _ _ => Reps.nil) (da_cons (de_var 0 rfl (.inl rfl)) (da_cons (de_var 1 rfl (.inl rfl)) (da_cons (de_var 2 rfl (.inl rfl)) (da_cons (de_var 3 rfl (.inl rfl)) da_nil)))))))))
theorem b_poly_product (M : Mo) (h_require_two : Has M "require_two" 5 P_require_two [] (spD M.G 3 f_require_two)) (h_times_in : Has M "times_in" 2 P_times_in [] (spD M.G 3 f_times_in)) (W : WX) : DB M 5 W N_poly_product ⟨S_poly_product, S_poly_product⟩ (defBody (top 33)) n_poly_product :=
  (db_cons (d1_expr (de_call h_require_two (by decide) (fun _ _ => Reps.nil) (da_cons (de_var 0 rfl (.inl rfl)) (da_cons (de_var 1 rfl (.inl rfl)) (da_cons (de_var 2 rfl (.inl rfl)) da_nil))))) (db_one (d1_ret (de_call h_times_in (by decide) (fun _ _ => Reps.nil) (da_cons (de_var 0 rfl (.inl rfl)) (da_cons (de_var 1 rfl (.inl rfl)) (da_cons (de_var 2 rfl (.inl rfl)) da_nil)))))))
theorem b_poly_division (M : Mo) (h_require_two : Has M "require_two" 5 P_require_two [] (spD M.G 3 f_require_two)) (h_divided_in : Has M "divided_in" 2 P_divided_in [] (spD M.G 3 f_divided_in)) (W : WX) : DB M 5 W N_poly_division ⟨S_poly_division, S_poly_division⟩ (defBody (top 34)) n_poly_division :=
  (db_cons (d1_expr (de_call h_require_two (by decide) (fun _ _ => Reps.nil) (da_cons (de_var 0 rfl (.inl rfl)) (da_cons (de_var 1 rfl (.inl rfl)) (da_cons (de_var 2 rfl (.inl rfl)) da_nil))))) (db_cons (d1_if (dt_cmp cm_eq (de_var 2 rfl (.inl rfl)) (de_tup da_nil)) (db_one d1_never) db_nil) (db_one (d1_ret (de_call h_divided_in (by decide) (fun _ _ => Reps.nil) (da_cons (de_var 0 rfl (.inl rfl)) (da_cons (de_var 1 rfl (.inl rfl)) (da_cons (de_var 2 rfl (.inl rfl)) da_nil))))))))
theorem b_common_poly (M : Mo) (h_require_two : Has M "require_two" 5 P_require_two [] (spD M.G 3 f_require_two)) (h_common_in : Has M "common_in" 4 P_common_in [] (spD M.G 3 f_common_in)) (W : WX) : DB M 5 W N_common_poly ⟨S_common_poly, S_common_poly⟩ (defBody (top 35)) n_common_poly :=
  (db_cons (d1_expr (de_call h_require_two (by decide) (fun _ _ => Reps.nil) (da_cons (de_var 0 rfl (.inl rfl)) (da_cons (de_var 1 rfl (.inl rfl)) (da_cons (de_var 2 rfl (.inl rfl)) da_nil))))) (db_one (d1_ret (de_call h_common_in (by decide) (fun _ _ => Reps.nil) (da_cons (de_var 0 rfl (.inl rfl)) (da_cons (de_var 1 rfl (.inl rfl)) (da_cons (de_var 2 rfl (.inl rfl)) da_nil)))))))
theorem b_common_paper (M : Mo) (h_require_two : Has M "require_two" 5 P_require_two [] (spD M.G 3 f_require_two)) (h_paper_in : Has M "paper_in" 3 P_paper_in [] (spD M.G 3 f_paper_in)) (W : WX) : DB M 5 W N_common_paper ⟨S_common_paper, S_common_paper⟩ (defBody (top 36)) n_common_paper :=
  (db_cons (d1_expr (de_call h_require_two (by decide) (fun _ _ => Reps.nil) (da_cons (de_var 0 rfl (.inl rfl)) (da_cons (de_var 1 rfl (.inl rfl)) (da_cons (de_var 2 rfl (.inl rfl)) da_nil))))) (db_one (d1_ret (de_call h_paper_in (by decide) (fun _ _ => Reps.nil) (da_cons (de_var 0 rfl (.inl rfl)) (da_cons (de_var 1 rfl (.inl rfl)) (da_cons (de_var 2 rfl (.inl rfl)) da_nil)))))))
theorem b__law_sums_right (M : Mo) (h__law_grab : Has M "_law_grab" 1 P__law_grab [] (spD M.G 2 f__law_grab)) (h__law_one_of : Has M "_law_one_of" 2 P__law_one_of [] (spD M.G 2 f__law_one_of)) (h_poly_sum : Has M "poly_sum" 6 P_poly_sum [.int 1] (spD M.G 4 f_poly_sum)) (h__law_po_sum : Has M "_law_po_sum" 2 P__law_po_sum [] (spD M.G 4 f__law_po_sum)) (h_poly_product : Has M "poly_product" 6 P_poly_product [] (spD M.G 3 f_poly_product)) (h__law_po_product : Has M "_law_po_product" 2 P__law_po_product [] (spD M.G 3 f__law_po_product)) (h_poly_power : Has M "poly_power" 5 P_poly_power [] (spD M.G 3 f_poly_power)) (h__law_po_power : Has M "_law_po_power" 3 P__law_po_power [] (spD M.G 3 f__law_po_power)) (h_poly_slope : Has M "poly_slope" 5 P_poly_slope [] (spD M.G 2 f_poly_slope)) (h__law_po_slope : Has M "_law_po_slope" 2 P__law_po_slope [] (spD M.G 2 f__law_po_slope)) (h_poly_at : Has M "poly_at" 5 P_poly_at [] (spD M.G 3 f_poly_at)) (h__law_po_at : Has M "_law_po_at" 1 P__law_po_at [] (spD M.G 3 f__law_po_at)) (hk_poly_sum : HasK M "poly_sum" 6 P_poly_sum 3 ["times"] (spD M.G 4 f_poly_sum)) (m_len : M.mg "len" = none) (W : WX) : DB M 6 W N__law_sums_right ⟨S__law_sums_right, S__law_sums_right⟩ (defBody (top 58)) n__law_sums_right :=
  (db_cons (d1_set 4 rfl (.inl rfl) (.inl rfl) (de_callB h__law_one_of (by decide) (fun _ _ => Reps.nil) (da_cons (de_var 0 rfl (.inl rfl)) (da_cons (de_fz (df_lst (da_cons de_int (da_cons (de_neg de_int) (da_cons de_int (da_cons de_int (da_cons (de_callB h__law_grab (by decide) (fun _ _ => Reps.nil) (da_cons (de_var 0 rfl (.inl rfl)) (da_cons (de_pow de_int de_int) da_nil))) (da_cons (de_sub de_int (de_callB h__law_grab (by decide) (fun _ _ => Reps.nil) (da_cons (de_var 0 rfl (.inl rfl)) (da_cons (de_pow de_int de_int) da_nil)))) da_nil)))))))) da_nil)))) (db_cons (d1_if (dt_cmp cm_ne (de_callK hk_poly_sum (by decide) (da_cons (de_var 1 rfl (.inl rfl)) (da_cons (de_var 2 rfl (.inl rfl)) (da_cons (de_var 3 rfl (.inl rfl)) da_nil))) (dk_cons (de_var 4 rfl (.inl rfl)) dk_nil)) (de_call h__law_po_sum (by decide) (fun _ _ => Reps.nil) (da_cons (de_var 1 rfl (.inl rfl)) (da_cons (de_var 2 rfl (.inl rfl)) (da_cons (de_var 3 rfl (.inl rfl)) (da_cons (de_var 4 rfl (.inl rfl)) da_nil)))))) (db_one (d1_ret de_bl)) db_nil) (db_cons (d1_if (dt_w (dw_or (dt_cmp cm_ne (de_call h_poly_sum (by decide) (fun _ _ => (Reps.cons (.int _) Reps.nil)) (da_cons (de_var 1 rfl (.inl rfl)) (da_cons (de_var 2 rfl (.inl rfl)) (da_cons (de_var 3 rfl (.inl rfl)) da_nil)))) (de_call h__law_po_sum (by decide) (fun _ _ => Reps.nil) (da_cons (de_var 1 rfl (.inl rfl)) (da_cons (de_var 2 rfl (.inl rfl)) (da_cons (de_var 3 rfl (.inl rfl)) (da_cons de_int da_nil)))))) (dw_or1 (dt_cmp cm_ne (de_callK hk_poly_sum (by decide) (da_cons (de_var 1 rfl (.inl rfl)) (da_cons (de_var 2 rfl (.inl rfl)) (da_cons (de_var 2 rfl (.inl rfl)) da_nil))) (dk_cons (de_neg de_int) dk_nil)) (de_tup da_nil))))) (db_one (d1_ret de_bl)) db_nil) (db_cons (d1_if (dt_cmp cm_ne (de_call h_poly_product (by decide) (fun _ _ => Reps.nil) (da_cons (de_var 1 rfl (.inl rfl)) (da_cons (de_var 2 rfl (.inl rfl)) (da_cons (de_var 3 rfl (.inl rfl)) da_nil)))) (de_call h__law_po_product (by decide) (fun _ _ => Reps.nil) (da_cons (de_var 1 rfl (.inl rfl)) (da_cons (de_var 2 rfl (.inl rfl)) (da_cons (de_var 3 rfl (.inl rfl)) da_nil))))) (db_one (d1_ret de_bl)) db_nil) (db_cons (d1_set 5 rfl (.inl rfl) (.inl rfl) (de_callB h__law_grab (by decide) (fun _ _ => Reps.nil) (da_cons (de_var 0 rfl (.inl rfl)) (da_cons (de_add de_int (de_fdiv de_int (de_add de_int (de_blt bl_len m_len (da_cons (de_var 2 rfl (.inl rfl)) da_nil))))) da_nil)))) (db_cons (d1_set 6 rfl (.inl rfl) (.inl rfl) (de_callB h__law_one_of (by decide) (fun _ _ => Reps.nil) (da_cons (de_var 0 rfl (.inl rfl)) (da_cons (de_fz (df_lst (da_cons (de_callB h__law_grab (by decide) (fun _ _ => Reps.nil) (da_cons (de_var 0 rfl (.inl rfl)) (da_cons de_int da_nil))) (da_cons (de_sub de_int (de_callB h__law_grab (by decide) (fun _ _ => Reps.nil) (da_cons (de_var 0 rfl (.inl rfl)) (da_cons de_int da_nil)))) (da_cons (de_sub (de_pow de_int de_int) (de_callB h__law_grab (by decide) (fun _ _ => Reps.nil) (da_cons (de_var 0 rfl (.inl rfl)) (da_cons (de_pow de_int de_int) da_nil)))) da_nil))))) da_nil)))) (db_cons (d1_if (dt_w (dw_or (dt_cmp cm_ne (de_call h_poly_power (by decide) (fun _ _ => Reps.nil) (da_cons (de_var 1 rfl (.inl rfl)) (da_cons (de_var 2 rfl (.inl rfl)) (da_cons (de_var 5 rfl (.inl rfl)) da_nil)))) (de_call h__law_po_power (by decide) (fun _ _ => Reps.nil) (da_cons (de_var 1 rfl (.inl rfl)) (da_cons (de_var 2 rfl (.inl rfl)) (da_cons (de_var 5 rfl (.inl rfl)) da_nil))))) (dw_or1 (dt_cmp cm_ne (de_call h_poly_slope (by decide) (fun _ _ => Reps.nil) (da_cons (de_var 1 rfl (.inl rfl)) (da_cons (de_var 2 rfl (.inl rfl)) da_nil))) (de_call h__law_po_slope (by decide) (fun _ _ => Reps.nil) (da_cons (de_var 1 rfl (.inl rfl)) (da_cons (de_var 2 rfl (.inl rfl)) da_nil))))))) (db_one (d1_ret de_bl)) db_nil) (db_one (d1_ret (de_cmp cm_eq (de_call h_poly_at (by decide) (fun _ _ => Reps.nil) (da_cons (de_var 1 rfl (.inl rfl)) (da_cons (de_var 2 rfl (.inl rfl)) (da_cons (de_var 6 rfl (.inl rfl)) da_nil)))) (de_call h__law_po_at (by decide) (fun _ _ => Reps.nil) (da_cons (de_var 1 rfl (.inl rfl)) (da_cons (de_var 2 rfl (.inl rfl)) (da_cons (de_var 6 rfl (.inl rfl)) da_nil))))))))))))))
theorem b__law_quotients_right (M : Mo) (h_poly_division : Has M "poly_division" 6 P_poly_division [] (spD M.G 3 f_poly_division)) (h__law_po_division : Has M "_law_po_division" 2 P__law_po_division [] (spD M.G 3 f__law_po_division)) (h_common_poly : Has M "common_poly" 6 P_common_poly [] (spD M.G 3 f_common_poly)) (h__law_po_common : Has M "_law_po_common" 4 P__law_po_common [] (spD M.G 3 f__law_po_common)) (h_common_paper : Has M "common_paper" 6 P_common_paper [] (spD M.G 3 f_common_paper)) (h__law_is_paper_right : Has M "_law_is_paper_right" 5 P__law_is_paper_right [] (spD M.G 4 f__law_is_paper_right)) (W : WX) : DB M 6 W N__law_quotients_right ⟨S__law_quotients_right, S__law_quotients_right⟩ (defBody (top 59)) n__law_quotients_right :=
  (db_cons (d1_if (dt_w (dw_and (dt_cmp cm_ne (de_var 2 rfl (.inl rfl)) (de_tup da_nil)) (dw_and1 (dt_cmp cm_ne (de_call h_poly_division (by decide) (fun _ _ => Reps.nil) (da_cons (de_var 0 rfl (.inl rfl)) (da_cons (de_var 1 rfl (.inl rfl)) (da_cons (de_var 2 rfl (.inl rfl)) da_nil)))) (de_call h__law_po_division (by decide) (fun _ _ => Reps.nil) (da_cons (de_var 0 rfl (.inl rfl)) (da_cons (de_var 1 rfl (.inl rfl)) (da_cons (de_var 2 rfl (.inl rfl)) da_nil)))))))) (db_one (d1_ret de_bl)) db_nil) (db_cons (d1_if (dt_cmp cm_ne (de_call h_common_poly (by decide) (fun _ _ => Reps.nil) (da_cons (de_var 0 rfl (.inl rfl)) (da_cons (de_var 1 rfl (.inl rfl)) (da_cons (de_var 2 rfl (.inl rfl)) da_nil)))) (de_call h__law_po_common (by decide) (fun _ _ => Reps.nil) (da_cons (de_var 0 rfl (.inl rfl)) (da_cons (de_var 1 rfl (.inl rfl)) (da_cons (de_var 2 rfl (.inl rfl)) da_nil))))) (db_one (d1_ret de_bl)) db_nil) (db_one (d1_ret (de_call h__law_is_paper_right (by decide) (fun _ _ => Reps.nil) (da_cons (de_var 0 rfl (.inl rfl)) (da_cons (de_var 1 rfl (.inl rfl)) (da_cons (de_var 2 rfl (.inl rfl)) (da_cons (de_call h_common_paper (by decide) (fun _ _ => Reps.nil) (da_cons (de_var 0 rfl (.inl rfl)) (da_cons (de_var 1 rfl (.inl rfl)) (da_cons (de_var 2 rfl (.inl rfl)) da_nil)))) da_nil)))))))))
theorem b__law_right (M : Mo) (h__law_one_of : Has M "_law_one_of" 2 P__law_one_of [] (spD M.G 2 f__law_one_of)) (h__law_poly_drawn : Has M "_law_poly_drawn" 2 P__law_poly_drawn [] (spD M.G 3 f__law_poly_drawn)) (h__law_sums_right : Has M "_law_sums_right" 7 P__law_sums_right [] (spD M.G 4 f__law_sums_right)) (h__law_quotients_right : Has M "_law_quotients_right" 7 P__law_quotients_right [] (spD M.G 3 f__law_quotients_right)) (h__law_po_product : Has M "_law_po_product" 2 P__law_po_product [] (spD M.G 3 f__law_po_product)) (h_is_poly : Has M "is_poly" 4 P_is_poly [] (spD M.G 2 f_is_poly)) (h__law_is_poly_here : Has M "_law_is_poly_here" 1 P__law_is_poly_here [] (spD M.G 2 f__law_is_poly_here)) (m_len : M.mg "len" = none) (m_max : M.mg "max" = none) (m_list : M.mg "list" = none) (m_repr : M.mg "repr" = none) (W : WX) : DB M 7 W N__law_right ⟨S__law_right, S__law_right⟩ (defBody (top 60)) n__law_right :=
  (db_cons (d1_set 1 rfl (.inr rfl) (.inr rfl) (de_callB h__law_one_of (by decide) (fun _ _ => Reps.nil) (da_cons (de_var 0 rfl (.inl rfl)) (da_cons (de_fz (df_lst (da_cons de_int (da_cons de_int (da_cons de_int (da_cons de_int (da_cons de_int (da_cons de_int da_nil)))))))) da_nil)))) (db_cons (d1_set 2 rfl (.inl rfl) (.inl rfl) (de_callB h__law_one_of (by decide) (fun _ _ => Reps.nil) (da_cons (de_var 0 rfl (.inl rfl)) (da_cons (de_fz (df_lst (da_cons de_int (da_cons de_int (da_cons de_int (da_cons de_int (da_cons de_int (da_cons de_int da_nil)))))))) da_nil)))) (db_cons (d1_par2 6 7 rfl rfl (by decide) rfl rfl (da_cons (de_callB h__law_poly_drawn (by decide) (fun _ _ => Reps.nil) (da_cons (de_var 0 rfl (.inl rfl)) (da_cons (de_var 1 rfl (.inr (.inl rfl))) (da_cons (de_var 2 rfl (.inl rfl)) da_nil)))) (da_cons (de_callB h__law_poly_drawn (by decide) (fun _ _ => Reps.nil) (da_cons (de_var 0 rfl (.inl rfl)) (da_cons (de_var 1 rfl (.inr (.inl rfl))) (da_cons (de_var 2 rfl (.inl rfl)) da_nil)))) da_nil))) (db_cons (d1_set 3 rfl (.inr rfl) (.inr rfl) (de_callB h__law_poly_drawn (by decide) (fun _ _ => Reps.nil) (da_cons (de_var 0 rfl (.inl rfl)) (da_cons (de_var 1 rfl (.inr (.inl rfl))) (da_cons de_int da_nil))))) (db_cons (d1_if (dt_w (dw_or (dt_not (dt_val (de_callB h__law_sums_right (by decide) (fun _ _ => Reps.nil) (da_cons (de_var 0 rfl (.inl rfl)) (da_cons (de_var 1 rfl (.inr (.inl rfl))) (da_cons (de_var 6 rfl (.inl rfl)) (da_cons (de_var 7 rfl (.inl rfl)) da_nil))))))) (dw_or1 (dt_not (dt_val (de_call h__law_quotients_right (by decide) (fun _ _ => Reps.nil) (da_cons (de_var 1 rfl (.inr (.inl rfl))) (da_cons (de_var 6 rfl (.inl rfl)) (da_cons (de_var 7 rfl (.inl rfl)) da_nil))))))))) (db_one (d1_ret de_bl)) db_nil) (db_cons (d1_setLcF 4 rfl rfl [("poly", 8)] (di_seq (de_tup (da_cons (de_var 6 rfl (.inl rfl)) (da_cons (de_var 7 rfl (.inl rfl)) da_nil)))) (blkOk_by (by decide +kernel)) (dg_name 8 rfl (.inl rfl) (.inl rfl)) dts_nil (de_call h__law_po_product (by decide) (fun _ _ => Reps.nil) (da_cons (de_var 1 rfl (.inr (.inl rfl))) (da_cons (de_var 8 rfl (.inl rfl)) (da_cons (de_var 3 rfl (.inr (.inl rfl))) da_nil))))) (db_cons (d1_if (dt_w (dw_and (dt_cmp cm_lt (de_blt bl_max m_max (da_cons (de_fz (df_lc [("poly", 8)] (di_seq (de_var 4 rfl (.inl rfl))) (blkOk_by (by decide +kernel)) (dg_name 8 rfl (.inl rfl) (.inl rfl)) dts_nil (de_blt bl_len m_len (da_cons (de_var 8 rfl (.inl rfl)) da_nil)))) da_nil)) de_int) (dw_and1 (dt_not (dt_val (de_call h__law_quotients_right (by decide) (fun _ _ => Reps.nil) (da_cons (de_var 1 rfl (.inr (.inl rfl))) (da_cons (de_ix (de_var 4 rfl (.inl rfl)) de_int) (da_cons (de_ix (de_var 4 rfl (.inl rfl)) de_int) da_nil))))))))) (db_one (d1_ret de_bl)) db_nil) (db_cons (d1_set 5 rfl (.inl rfl) (.inl rfl) (de_fz (df_lst (da_cons (de_var 6 rfl (.inl rfl)) (da_cons (de_fz (df_bltT bl_list m_list (da_cons (de_var 6 rfl (.inl rfl)) da_nil))) (da_cons (de_add (de_var 6 rfl (.inl rfl)) (de_tup (da_cons de_int da_nil))) (da_cons (de_add (de_cutT (de_var 6 rfl (.inl rfl)) do_no (do_at (de_neg de_int))) (de_tup (da_cons (de_var 1 rfl (.inr (.inl rfl))) da_nil))) (da_cons (de_mul (de_tup (da_cons de_int da_nil)) de_int) (da_cons (de_mul (de_tup (da_cons de_int da_nil)) de_int) (da_cons de_non (da_cons (de_tup da_nil) (da_cons de_int (da_cons de_str (da_cons (de_tup (da_cons de_bl da_nil)) (da_cons (de_tup (da_cons de_int (da_cons de_non da_nil))) (da_cons (de_add (de_var 6 rfl (.inl rfl)) (de_tup (da_cons (de_neg de_int) da_nil))) (da_cons de_dict0 da_nil))))))))))))))))) (db_cons (d1_set 5 rfl (.inl rfl) (.inl rfl) (de_fz (df_cat (de_var 5 rfl (.inl rfl)) (de_fz (df_lst (da_cons (de_tup (da_cons de_int da_nil)) (da_cons (de_tup (da_cons de_int (da_cons de_int da_nil))) (da_cons (de_add (de_var 6 rfl (.inl rfl)) (de_tup (da_cons de_int da_nil))) (da_cons (de_tup (da_cons (de_sub (de_var 1 rfl (.inr (.inl rfl))) de_int) da_nil)) (da_cons (de_tup (da_cons (de_tup (da_cons de_int da_nil)) da_nil)) (da_cons (de_revT (de_var 7 rfl (.inl rfl))) da_nil))))))))))) (db_one (d1_ret (de_cmp cm_eq (de_fz (df_lc [("value", 9)] (di_seq (de_var 5 rfl (.inl rfl))) (blkOk_by (by decide +kernel)) (dg_name 9 rfl (.inl rfl) (.inl rfl)) (dts_one (dt_cmp cm_ne (de_blt bl_repr m_repr (da_cons (de_call h_is_poly (by decide) (fun _ _ => Reps.nil) (da_cons (de_var 1 rfl (.inr (.inl rfl))) (da_cons (de_var 9 rfl (.inl rfl)) da_nil))) da_nil)) (de_blt bl_repr m_repr (da_cons (de_call h__law_is_poly_here (by decide) (fun _ _ => Reps.nil) (da_cons (de_var 1 rfl (.inr (.inl rfl))) (da_cons (de_var 9 rfl (.inl rfl)) da_nil))) da_nil)))) (de_var 9 rfl (.inl rfl)))) (de_fz (df_lst da_nil))))))))))))))
theorem b_law (M : Mo) (h__law_bag : Has M "_law_bag" 1 P__law_bag [] (spF M.G 2 f__law_bag)) (h__law_right : Has M "_law_right" 8 P__law_right [] (spD M.G 1 f__law_right)) (h_poly_division : Has M "poly_division" 6 P_poly_division [] (spD M.G 3 f_poly_division)) (h_common_poly : Has M "common_poly" 6 P_common_poly [] (spD M.G 3 f_common_poly)) (h_common_paper : Has M "common_paper" 6 P_common_paper [] (spD M.G 3 f_common_paper)) (m_len : M.mg "len" = none) (m_min : M.mg "min" = none) (m_max : M.mg "max" = none) (m_range : M.mg "range" = none) (W : WX) : DB M 8 W N_law ⟨S_law, S_law⟩ (defBody (top 61)) n_law :=
  (db_cons (d1_for (vs := [1]) (di_rng1 m_range (da_cons (de_blt bl_max2 m_max (da_cons de_int (da_cons (de_blt bl_min2 m_min (da_cons de_int (da_cons (de_blt bl_len m_len (da_cons (de_var 0 rfl (.inl rfl)) da_nil)) da_nil))) da_nil))) da_nil)) (dg_name 1 rfl (.inl rfl) (.inl rfl)) (db_cons (d1_set 3 rfl (.inl rfl) (.inl rfl) (de_hnd (df_call h__law_bag (by decide) (fun _ _ => Reps.nil) (da_cons (de_var 0 rfl (.inl rfl)) (da_cons (de_var 1 rfl (.inl rfl)) da_nil))))) (db_one (d1_if (dt_w (dw_or (dt_not (dt_val (de_callB h__law_right (by decide) (fun _ _ => Reps.nil) (da_cons (de_var 3 rfl (.inl rfl)) da_nil)))) (dw_or1 (dt_not (dt_val (de_callB h__law_right (by decide) (fun _ _ => Reps.nil) (da_cons (de_var 3 rfl (.inl rfl)) da_nil))))))) (db_one (d1_ret de_bl)) db_nil)))) (db_cons (d1_set 2 rfl (.inl rfl) (.inl rfl) (de_fz (df_lst (da_cons (de_call h_poly_division (by decide) (fun _ _ => Reps.nil) (da_cons de_int (da_cons (de_tup (da_cons de_int (da_cons de_int (da_cons de_int da_nil)))) (da_cons (de_tup (da_cons de_int (da_cons de_int da_nil))) da_nil)))) (da_cons (de_call h_common_poly (by decide) (fun _ _ => Reps.nil) (da_cons de_int (da_cons (de_tup (da_cons de_int (da_cons de_int (da_cons de_int da_nil)))) (da_cons (de_tup (da_cons de_int (da_cons de_int da_nil))) da_nil)))) (da_cons (de_call h_common_paper (by decide) (fun _ _ => Reps.nil) (da_cons de_int (da_cons (de_tup (da_cons de_int (da_cons de_int da_nil))) (da_cons (de_tup (da_cons de_int (da_cons de_int da_nil))) da_nil)))) da_nil)))))) (db_cons (d1_if (dt_w (dw_or (dt_cmp cm_ne (de_var 2 rfl (.inl rfl)) (de_fz (df_lst (da_cons (de_tup (da_cons (de_tup (da_cons de_int (da_cons de_int da_nil))) (da_cons (de_tup (da_cons de_int da_nil)) da_nil))) (da_cons (de_tup (da_cons de_int (da_cons de_int da_nil))) (da_cons (de_tup (da_cons (de_tup (da_cons de_int da_nil)) (da_cons (de_tup (da_cons de_int da_nil)) (da_cons (de_tup (da_cons de_int da_nil)) da_nil)))) da_nil)))))) (dw_or1 (dt_cmp cm_ne (de_call h_common_paper (by decide) (fun _ _ => Reps.nil) (da_cons de_int (da_cons (de_tup da_nil) (da_cons (de_tup da_nil) da_nil)))) (de_tup (da_cons (de_tup da_nil) (da_cons (de_tup da_nil) (da_cons (de_tup da_nil) da_nil)))))))) (db_one (d1_ret de_bl)) db_nil) (db_one (d1_ret (de_and (de_cmp cm_eq (de_call h_common_paper (by decide) (fun _ _ => Reps.nil) (da_cons de_int (da_cons (de_tup (da_cons de_int (da_cons de_int da_nil))) (da_cons (de_tup (da_cons de_int (da_cons de_int (da_cons de_int da_nil)))) da_nil)))) (de_tup (da_cons (de_tup (da_cons de_int (da_cons de_int da_nil))) (da_cons (de_tup (da_cons de_int da_nil)) (da_cons (de_tup da_nil) da_nil))))) (de_one (de_cmp cm_eq (de_call h_common_paper (by decide) (fun _ _ => Reps.nil) (da_cons de_int (da_cons (de_tup da_nil) (da_cons (de_tup (da_cons de_int (da_cons de_int da_nil))) da_nil)))) (de_tup (da_cons (de_tup (da_cons de_int (da_cons de_int da_nil))) (da_cons (de_tup da_nil) (da_cons (de_tup (da_cons de_int da_nil)) da_nil))))))))))))
end Gn
namespace Gn
open PySem PySem.Spec PyProof.Rows L2 DS Pm

/-! ### whole numbers -/
theorem kit_ii : kitB "int" "int" = some true := by decide +kernel
theorem kit_ib : kitB "int" "bool" = some false := by decide +kernel
theorem c_is_whole (i : Int) (st : Sto) : callD 1 f_is_whole st [.int i] = .ok (.bl true) st := by
  refine cd_ok (fn_ret ?_ rfl) rfl rfl st
  have h1 : eCB isiD (aCons (eVar 0) (aCons (eC (.ty "int")) aNil)) [some (.int i)] [] = .ok (.bl true) [] := by
    simp [isiD, D.clsH, D.cls, kit_ii]
  have h2 : eCB isiD (aCons (eVar 0) (aCons (eC (.ty "bool")) aNil)) [some (.int i)] [] = .ok (.bl false) [] := by
    simp [isiD, D.clsH, D.cls, kit_ib]
  show retD (sRet (eAndV _ _) [some (.int i)] []) = _
  simp [ev_andV' h1, ev_notV' h2]
theorem c_is_within (i a b : Int) (st : Sto) : callD 3 f_is_within st [.int i, .int a, .int b] = .ok (.bl (decide (a ≤ i) && decide (i ≤ b))) st := by
  refine cd_ok (fn_ret ?_ rfl) rfl rfl st
  have h1 : eCal 1 f_is_whole [] (aCons (eVar 0) aNil) [some (.int i), some (.int a), some (.int b)] [] = .ok (.bl true) [] := by simp [c_is_whole]
  show retD (sRet (eAndV _ _) [some (.int i), some (.int a), some (.int b)] []) = _
  simp only [sv_ret, ev_andV' h1]
  rw [if_pos trivial, ev_chain (st1 := []) (st2 := []) (x := .int a) (y := .int i) (k := decide (a ≤ i)) rfl rfl rfl]
  by_cases h : a ≤ i
  · simp [h]
  · simp [h]

theorem u_undone {p x : Int} (hp : isP p) (h0 : x ≠ 0) (h1 : 0 ≤ x ∧ x < p) : f_undone_number [] [.int p, .int x] = .ok (.int (invM p x)) [] := by
  rcases hp with rfl | rfl | rfl | rfl
  · have : x = 1 := by omega
    subst this; kernel_rfl
  · have : x = 1 ∨ x = 2 := by omega
    rcases this with rfl | rfl <;> kernel_rfl
  · have : x = 1 ∨ x = 2 ∨ x = 3 ∨ x = 4 := by omega
    rcases this with rfl | rfl | rfl | rfl <;> kernel_rfl
  · have : x = 1 ∨ x = 2 ∨ x = 3 ∨ x = 4 ∨ x = 5 ∨ x = 6 := by omega
    rcases this with rfl | rfl | rfl | rfl | rfl | rfl <;> kernel_rfl
theorem c_undone {p x : Int} (hp : isP p) (h0 : x ≠ 0) (h1 : 0 ≤ x ∧ x < p) (st : Sto) : callD 2 f_undone_number st [.int p, .int x] = .ok (.int (invM p x)) st := cd_ok (u_undone hp h0 h1) rfl rfl st
theorem c_number_at (a : List Int) (i : Nat) (st : Sto) : callD 2 f_number_at st [P a, .int i] = .ok (.int (a.getD i 0)) st := by
  refine cd_ok (fn_ret ?_ rfl) rfl (by simp) st
  show retD (sRet _ [some (P a), some (.int i)] []) = _
  by_cases h : i < a.length
  · simp [h, atI_lt h rfl, getD_lt h]
  · simp [h, getD_ge (Nat.le_of_not_lt h)]
/-! ### trimmed -/
def dI : D → Int
  | .int i => i
  | _ => 0
theorem w_trimmed {p : Int} {A : D} {xs : List Int} {o : Option D} (hl : xs.length ≤ 1000) : ∃ sd2 st2, w_trimmed_1 [some (.int p), some A, some (.hnd 0), o] [.lst (xs.map D.int)] = .go .nx sd2 st2 ∧ sd2 = [some (.int p), some A, some (.hnd 0), o] ∧ st2 = [.lst ((trim xs).map D.int)] := by
  refine while_run (n := xs.length) (fun n sd st => ∃ zs : List Int, sd = [some (.int p), some A, some (.hnd 0), o] ∧ st = [.lst (zs.map D.int)] ∧ n = zs.length ∧ trim zs = trim xs) (fun sd st => sd = [some (.int p), some A, some (.hnd 0), o] ∧ st = [.lst ((trim xs).map D.int)]) (by omega) ⟨xs, rfl, rfl, rfl, rfl⟩ ?_
  rintro n _ _ ⟨zs, rfl, rfl, rfl, hz⟩
  rcases List.eq_nil_or_concat zs with e | ⟨ys, y, e⟩
  · subst e
    left
    refine ⟨?_, rfl, by rw [← hz]; rfl⟩
    show eAnd _ _ _ _ = _
    simp [o_neH (ns := []) (st := [.lst []]) (h := 0) rfl]
  · rw [List.concat_eq_append] at e
    subst e
    have hlast : L2.atI ((ys ++ [y]).map D.int) (-1) = some (.int y) := by
      rw [atI_map, atI_last (by simp)]
      simp [lastM, List.getD_eq_getElem?_getD]
    have ht : t_trimmed_1 [some (.int p), some A, some (.hnd 0), o] [.lst ((ys ++ [y]).map D.int)] = .ok (decide (y = 0)) [.lst ((ys ++ [y]).map D.int)] := by
      show eAnd _ _ _ _ = _
      have hn : neD [.lst ((ys ++ [y]).map D.int)] (.hnd 0) (.lst []) = some (.bl true) := by
        rw [o_neH (ns := ys ++ [y]) rfl]; simp
      simp only [ev_and, ev_test, ev_op, ev_v0, ev_vs, ev_fz, ev_lst, ev_nil, rb_ok, List.length_nil, Nat.zero_le, if_true, hn, ro_some, isB_bl, ev_un, ev_c, o_neg, ix_hnd, ca_zero, Option.bind_some, hlast, o_eqI]
    by_cases hy : y = 0
    · right
      refine ⟨by rw [ht, hy]; rfl, ys.length, [some (.int p), some A, some (.hnd 0), o], [.lst (ys.map D.int)], ?_, by simp, ys, rfl, rfl, rfl, by rw [← hz, hy, trim_zero]⟩
      show sDrop (ePop (eVar 2)) _ _ = _
      rw [sv_drop, sv_pop (h := 0) (st1 := [.lst ((ys ++ [y]).map D.int)]) rfl rfl (y := .int y) (by simp)]
      simp
    · left
      refine ⟨by rw [ht]; simp [hy], rfl, ?_⟩
      rw [← hz, trim_nz _ hy]
theorem u_trimmed {p : Int} {xs : List Int} (hp : 0 < p) (hl : xs.length ≤ 1000) : f_trimmed [] [.int p, .lst (xs.map D.int)] = .ok (P (nrm p xs)) [] := by
  refine fn_ret ?_ (noH_P _)
  show retD (sSeq _ _ [some (.int p), some (.lst (xs.map D.int)), none, none] []) = _
  have q : q_trimmed_1 [some (.int p), some (.lst (xs.map D.int)), none, none] [] = .ok ((xs.map (· % p)).map D.int) [] := by
    have w := wk_seq (f := eVar 1) (sd := [some (.int p), some (.lst (xs.map D.int)), none, none]) (st := []) (st' := []) rfl (show seqN (.lst (xs.map D.int)) = some (xs.map D.int) from rfl)
    refine (lc_map (fg := gNameD 3) (fe := e_trimmed_1) (vs := [3]) w (by simp; unfold lineN; omega) (fun d => .int (dI d % p)) fun i x hx => ?_).trans ?_
    · rw [List.getElem?_map] at hx
      cases hxs : xs[i]? with
      | none => rw [hxs] at hx; cases hx
      | some z =>
        rw [hxs] at hx
        cases hx
        refine ⟨[some (.int p), some (.lst (xs.map D.int)), none, some (.int z)], rfl, ?_⟩
        show eOp _ _ _ _ _ = _
        simp [o_mod hp, dI]
    · rw [List.map_map, List.map_map]; rfl
  obtain ⟨sd2, st2, e, rfl, rfl⟩ := w_trimmed (p := p) (A := .lst (xs.map D.int)) (xs := xs.map (· % p)) (o := none) (by simpa using hl)
  simp only [sv_seq, sv_set, ev_hnd, q, rb_ok, rs_ok, sk_nx, List.length_nil, List.nil_append, List.set_cons_succ, List.set_cons_zero]
  rw [e]
  simp [nrm]
theorem c_trimmed {p : Int} {xs : List Int} (hp : 0 < p) (hl : xs.length ≤ 1000) (st : Sto) : callD 2 f_trimmed st [.int p, .lst (xs.map D.int)] = .ok (P (nrm p xs)) st := cd_ok (u_trimmed hp hl) rfl (by simp) st
theorem c_trimmedH {p : Int} {xs : List Int} {h : Nat} {st : Sto} (hp : 0 < p) (hl : xs.length ≤ 1000) (hs : cellAt st h = some (xs.map D.int)) : callD 2 f_trimmed st [.int p, .hnd h] = .ok (P (nrm p xs)) st := by
  refine cd_snap (u_trimmed hp hl) rfl ?_ (noL_P _) (fun z => by simp at z)
  have : st[h]? = some (.lst (xs.map D.int)) := by
    unfold cellAt at hs
    cases q : st[h]? with
    | none => rw [q] at hs; cases hs
    | some c =>
      rw [q] at hs
      cases c with
      | lst ys => cases hs; rfl
      | dead => cases hs
  show (match snap st (.int p), snaps st [.hnd h] with
    | some x, some xs => some (x :: xs)
    | _, _ => none) = _
  show (match (some (D.int p)), (match snap st (.hnd h), snaps st [] with
    | some x, some xs => some (x :: xs)
    | _, _ => none) with
    | some x, some xs => some (x :: xs)
    | _, _ => none) = _
  have e : snap st (.hnd h) = some (.lst (xs.map D.int)) := by
    show (match st[h]? with
      | some (.lst xs) => if D.noHs xs then some (D.lst xs) else none
      | _ => none) = _
    rw [this]
    show (if D.noHs (xs.map D.int) = true then some (D.lst (xs.map D.int)) else none) = _
    rw [noHs_ints]; rfl
  rw [e]; rfl
end Gn
namespace Gn
open PySem PySem.Spec PyProof.Rows L2 DS Pm

/-! ### small numbers; lists' items -/
def Lo (p : Int) (xs : List Int) : Prop := ∀ x ∈ xs, 0 ≤ x ∧ x < p
theorem sm {p x : Int} (hp : isP p) (h : 0 ≤ x ∧ x < p) : small64 x = true := by
  refine small_of ?_ ?_ <;> rcases hp with z | z | z | z <;> omega
theorem Lo.at {p : Int} {xs : List Int} (h : Lo p xs) {i : Nat} (hi : i < xs.length) : 0 ≤ xs[i] ∧ xs[i] < p := h _ (List.getElem_mem hi)
theorem Lo.getD {p : Int} (hp : isP p) {xs : List Int} (h : Lo p xs) (i : Nat) : 0 ≤ xs.getD i 0 ∧ xs.getD i 0 < p := getD_lo hp.pos h i
theorem mi_at {xs : List Int} {i : Nat} {x : D} (h : (xs.map D.int)[i]? = some x) : ∃ hi : i < xs.length, x = .int xs[i] := by
  rw [List.getElem?_map] at h
  by_cases hi : i < xs.length
  · rw [List.getElem?_eq_getElem hi] at h
    cases h
    exact ⟨hi, rfl⟩
  · rw [List.getElem?_eq_none (by omega)] at h
    cases h
theorem en_at {xs : List Int} {i : Nat} {x : D} (h : (enuL (xs.map D.int))[i]? = some x) : ∃ hi : i < xs.length, x = .tup [.int (i : Nat), .int xs[i]] := by
  unfold enuL at h
  rw [List.getElem?_map, List.getElem?_zipIdx, List.getElem?_map] at h
  by_cases hi : i < xs.length
  · rw [List.getElem?_eq_getElem hi] at h
    simp at h
    exact ⟨hi, h.symm⟩
  · rw [List.getElem?_eq_none (by omega)] at h
    cases h
theorem rg_at {lo c : Int} {n i : Nat} {x : D} (h : (rngL lo c n)[i]? = some x) : i < n ∧ x = .int (lo + i * c) := by
  unfold rngL at h
  rw [List.getElem?_map] at h
  by_cases hi : i < n
  · rw [List.getElem?_range hi] at h
    cases h
    exact ⟨hi, rfl⟩
  · rw [List.getElem?_eq_none (by simpa using hi)] at h
    cases h
theorem sq_P (xs : List Int) : seqN (P xs) = some (xs.map D.int) := rfl
theorem sq_L (xs : List D) : seqN (.lst xs) = some xs := rfl
theorem near_nat {n : Nat} (h : n ≤ 100000) : near (n : Int) = true := by
  have e : (2 : Int) ^ 62 = 4611686018427387904 := by decide
  unfold near
  rw [e, Bool.and_eq_true, decide_eq_true_eq, decide_eq_true_eq]
  constructor <;> omega
theorem near_int {i : Int} (h : -100000 ≤ i ∧ i ≤ 100000) : near i = true := by
  have e : (2 : Int) ^ 62 = 4611686018427387904 := by decide
  unfold near
  rw [e, Bool.and_eq_true, decide_eq_true_eq, decide_eq_true_eq]
  constructor <;> omega
theorem rng1 {n : Nat} (h : n ≤ 100000) : rngOf [.int (n : Int)] = some (0, 1, n) := by
  show (if near n then some ((0 : Int), (1 : Int), (n : Int).toNat) else none) = _
  rw [if_pos (near_nat h), Int.toNat_natCast]
theorem rng1' {i : Int} {n : Nat} (hi : i.toNat = n) (h : -100000 ≤ i ∧ i ≤ 100000) : rngOf [.int i] = some (0, 1, n) := by
  show (if near i then some ((0 : Int), (1 : Int), i.toNat) else none) = _
  rw [if_pos (near_int h), hi]
/-! ### sums -/
theorem q_plus {p t : Int} {a b : List Int} (hp : isP p) (hb : Lo p b) {k : Nat} (hk : k ≤ 1000) {o : Option D} : q_plus_in_1 [some (.int p), some (P a), some (P b), some (.int t), some (.int k), o] [] = .ok ((lin a b t k).map D.int) [] := by
  have w := wk_rng (fs := aCons (eVar 4) aNil) (sd := [some (.int p), some (P a), some (P b), some (.int t), some (.int k), o]) (st := []) (st' := []) (k := 1) (ds := [.int k]) (by simp) rfl (rng1 (n := k) (by omega))
  refine (lc_map (fg := gNameD 5) (fe := e_plus_in_1) (vs := [5]) w (by unfold lineN; omega) (fun d => .int (a.getD (dI d).toNat 0 + t * b.getD (dI d).toNat 0)) fun i x hx => ?_).trans ?_
  · obtain ⟨hi, rfl⟩ := rg_at hx
    refine ⟨[some (.int p), some (P a), some (P b), some (.int t), some (.int k), some (.int i)], by simp [wipeD], ?_⟩
    show eOp _ _ _ _ _ = _
    have hm := o_mul (st := []) (i := t) (j := b.getD i 0) (.inr (sm hp (hb.getD hp i)))
    simp [c_number_at, hm, dI] at hm ⊢
    simp [hm]
  · unfold rngL lin
    rw [List.map_map, List.map_map]
    congr 1
    apply List.map_congr_left
    intro i _
    simp [dI]
theorem c_plus {p t : Int} {a b : List Int} (hp : isP p) (hb : Lo p b) (ha1 : a.length ≤ 500) (hb1 : b.length ≤ 500) (st : Sto) : callD 4 f_plus_in st [.int p, P a, P b, .int t] = .ok (P (plusM p a b t)) st := by
  refine cd_ok (fn_ret ?_ (noH_P _)) rfl (by simp) st
  show retD (sSeq _ _ [some (.int p), some (P a), some (P b), some (.int t), none, none] []) = _
  have hm : max2D [] [.int (a.length : Int), .int (b.length : Int)] = some (.int ((max a.length b.length : Nat) : Int)) := by
    show some (D.int (if (b.length : Int) > a.length then b.length else a.length)) = _
    congr 2
    split <;> omega
  simp only [sv_seq, sv_set, ev_cb, ev_cons, ev_v0, ev_vs, ev_nil, rb_ok, l_lenP, ro_some, hm, rs_ok, sk_nx, List.set_cons_succ, List.set_cons_zero, sv_ret, ev_cal, ev_fz]
  rw [q_plus hp hb (k := max a.length b.length) (by omega)]
  simp only [rb_ok, List.append_nil]
  rw [c_trimmed hp.pos (by simp [lin]; omega)]
  rfl
/-! ### products -/
theorem w_times1 {p : Int} {A : D} {b arr : List Int} {k : Nat} {c : Int} (hc : small64 c = true) (hl : k + b.length ≤ arr.length) (hz : arr.length ≤ 1000) (o6 o7 : Option D) : ∃ sd2 st2, w_times_in_1 [some (.int p), some A, some (P b), some (.hnd 0), some (.int k), some (.int c), o6, o7] [.lst (arr.map D.int)] = .go .nx sd2 st2 ∧
    ∃ o6 o7, sd2 = [some (.int p), some A, some (P b), some (.hnd 0), some (.int k), some (.int c), o6, o7] ∧ st2 = [.lst ((addRow arr k c b).map D.int)] := by
  obtain ⟨sd2, st2, e, X, o6', o7', h1, h2, h3, h4⟩ := for_run (fg := gTupD (gNameD 6 :: gNameD 7 :: [])) (b := y_times_in_1) (wk_enu (f := eVar 2) (sd := [some (.int p), some A, some (P b), some (.hnd 0), some (.int k), some (.int c), o6, o7]) (st := [.lst (arr.map D.int)]) (st' := [.lst (arr.map D.int)]) rfl (sq_P b))
    (fun i sd st => ∃ (X : List Int) (o6 o7 : Option D), sd = [some (.int p), some A, some (P b), some (.hnd 0), some (.int k), some (.int c), o6, o7] ∧ st = [.lst (X.map D.int)] ∧ X.length = arr.length ∧ addRow X (k + i) c (b.drop i) = addRow arr k c b)
    ⟨arr, o6, o7, rfl, rfl, rfl, rfl⟩ (by
      rintro i x _ _ hx ⟨X, o6, o7, rfl, rfl, hX, hr⟩
      obtain ⟨hi, rfl⟩ := en_at hx
      have hk : k + i < X.length := by omega
      refine ⟨[some (.int p), some A, some (P b), some (.hnd 0), some (.int k), some (.int c), some (.int i), some (.int b[i])], [.lst (X.map D.int)], _, _, by simp, sv_put (st1 := [.lst (X.map D.int)]) (st2 := [.lst (X.map D.int)]) (st3 := [.lst (X.map D.int)]) (h := 0) (k := ((k + i : Nat) : Int)) (j := k + i) (y := .int (X.getD (k + i) 0 + c * b[i])) (xs := X.map D.int) ?_ rfl ?_ rfl (ixN_nat rfl (by simpa using hk)), X.set (k + i) (X.getD (k + i) 0 + c * b[i]), some (.int i), some (.int b[i]), rfl, ?_, by simpa using hX, ?_⟩
      · have ha : L2.atI (X.map D.int) ((k : Int) + (i : Int)) = some (.int (X.getD (k + i) 0)) := by
          rw [atI_map, atI_lt hk (by omega), getD_lt hk]; rfl
        simp [ha, o_mul (st := [.lst (X.map D.int)]) (.inl hc)]
      · simp
      · simp [List.map_set]
      · rw [← hr, List.drop_eq_getElem_cons hi]
        rfl)
  refine ⟨sd2, st2, e, o6', o7', h1, ?_⟩
  have hl : (enuL (b.map D.int)).length = b.length := by simp [enuL]
  rw [hl, List.drop_eq_nil_of_le (Nat.le_refl _)] at h4
  rw [h2, ← h4]
  rfl
theorem w_times2 {p : Int} {a b arr : List Int} (hp : isP p) (ha : Lo p a) (hl : a.length + b.length ≤ arr.length + 1) (hz : arr.length ≤ 1000) : ∃ sd2 st2, w_times_in_2 [some (.int p), some (P a), some (P b), some (.hnd 0), none, none, none, none] [.lst (arr.map D.int)] = .go .nx sd2 st2 ∧
    ∃ o4 o5 o6 o7, sd2 = [some (.int p), some (P a), some (P b), some (.hnd 0), o4, o5, o6, o7] ∧ st2 = [.lst ((mulRows arr 0 a b).map D.int)] := by
  obtain ⟨sd2, st2, e, X, o4', o5', o6', o7', h1, h2, h3, h4⟩ := for_run (fg := gTupD (gNameD 4 :: gNameD 5 :: [])) (b := y_times_in_2) (wk_enu (f := eVar 1) (sd := [some (.int p), some (P a), some (P b), some (.hnd 0), none, none, none, none]) (st := [.lst (arr.map D.int)]) (st' := [.lst (arr.map D.int)]) rfl (sq_P a))
    (fun i sd st => ∃ (X : List Int) (o4 o5 o6 o7 : Option D), sd = [some (.int p), some (P a), some (P b), some (.hnd 0), o4, o5, o6, o7] ∧ st = [.lst (X.map D.int)] ∧ X.length = arr.length ∧ mulRows X i (a.drop i) b = mulRows arr 0 a b)
    ⟨arr, none, none, none, none, rfl, rfl, rfl, rfl⟩ (by
      rintro i x _ _ hx ⟨X, o4, o5, o6, o7, rfl, rfl, hX, hr⟩
      obtain ⟨hi, rfl⟩ := en_at hx
      have step : mulRows (if a[i] = 0 then X else addRow X i a[i] b) (i + 1) (a.drop (i + 1)) b = mulRows arr 0 a b := by
        rw [← hr, List.drop_eq_getElem_cons hi]; rfl
      by_cases h0 : a[i] = 0
      · refine ⟨[some (.int p), some (P a), some (P b), some (.hnd 0), some (.int i), some (.int a[i]), o6, o7], [.lst (X.map D.int)], _, _, by simp, (by show sIf _ _ _ _ _ = _; simp [h0]; rfl), X, some (.int i), some (.int a[i]), o6, o7, (by rw [h0]), rfl, hX, by rw [if_pos h0] at step; exact step⟩
      · obtain ⟨sd3, st3, e3, p6, p7, rfl, rfl⟩ := w_times1 (p := p) (A := P a) (b := b) (arr := X) (k := i) (c := a[i]) (sm hp (ha.at hi)) (by omega) (by omega) o6 o7
        refine ⟨[some (.int p), some (P a), some (P b), some (.hnd 0), some (.int i), some (.int a[i]), o6, o7], [.lst (X.map D.int)], _, _, by simp, (by show sIf _ _ _ _ _ = _; simp [h0]; exact e3), addRow X i a[i] b, some (.int i), some (.int a[i]), p6, p7, rfl, rfl, by rw [addRow_len]; exact hX, by rw [if_neg h0] at step; exact step⟩)
  refine ⟨sd2, st2, e, o4', o5', o6', o7', h1, ?_⟩
  have hl : (enuL (a.map D.int)).length = a.length := by simp [enuL]
  rw [hl, List.drop_eq_nil_of_le (Nat.le_refl _)] at h4
  rw [h2, ← h4]
  rfl
theorem q_zeros {fs : EA} {sd : Sl} {st : Sto} {e : EE} {i : Int} {n v : Nat} (hf : fs sd st = .ok [.int i] st) (hi : i.toNat = n) (hb : -100000 ≤ i ∧ i < 100000) (he : e = eC (.int 0)) : fLc (iRngN 1 fs) (gNameD v) eYes e [v] sd st = .ok ((List.replicate n (0 : Int)).map D.int) st := by
  subst he
  refine (lc_map (wk_rng hf rfl (rng1' hi (by omega))) (by unfold lineN; omega) (fun _ => .int 0) fun i x hx => ⟨(wipeD sd [v]).set v (some x), rfl, rfl⟩).trans ?_
  unfold rngL
  rw [List.map_map]
  congr 1
  apply List.ext_getElem?
  intro j
  simp [List.getElem?_replicate]
  by_cases h : j < n
  · simp [h, List.getElem?_range]
  · simp [h]
theorem c_times {p : Int} {a b : List Int} (hp : isP p) (ha : Lo p a) (ha1 : a.length ≤ 400) (hb1 : b.length ≤ 400) (st : Sto) : callD 3 f_times_in st [.int p, P a, P b] = .ok (P (timesM p a b)) st := by
  refine cd_ok (fn_ret ?_ (noH_P _)) rfl (by simp) st
  show retD (sSeq _ (sSeq _ _) [some (.int p), some (P a), some (P b), none, none, none, none, none] []) = _
  have test : eOr (eTest (eOp eqD (eVar 1) (eTup aNil))) (eTest (eOp eqD (eVar 2) (eTup aNil))) [some (.int p), some (P a), some (P b), none, none, none, none, none] [] = .ok (decide (a = [] ∨ b = [])) [] := by
    by_cases h1 : a = []
    · simp [h1]
    · by_cases h2 : b = [] <;> simp [h1, h2]
  by_cases h : a = [] ∨ b = []
  · simp only [sv_seq, sv_if, test, rs_ok, h, decide_true, if_true]
    unfold timesM
    rw [if_pos h]
    rfl
  · have ha0 : 0 < a.length := List.length_pos_iff.mpr fun z => h (.inl z)
    simp only [sv_seq, sv_if, test, rs_ok, h, decide_false, if_neg Bool.false_ne_true, sv_next, sk_nx, sv_set, ev_hnd]
    have q : q_times_in_1 [some (.int p), some (P a), some (P b), none, none, none, none, none] [] = .ok ((List.replicate (a.length + b.length - 1) (0 : Int)).map D.int) [] :=
      q_zeros (i := (a.length : Int) + b.length - 1) (by simp) (by omega) (by omega) rfl
    rw [q]
    simp only [rb_ok, rs_ok, sk_nx, List.length_nil, List.nil_append, List.set_cons_succ, List.set_cons_zero, sv_seq]
    obtain ⟨sd2, st2, e, o4, o5, o6, o7, rfl, rfl⟩ := w_times2 (p := p) (a := a) (b := b) (arr := List.replicate (a.length + b.length - 1) 0) hp ha (by rw [List.length_replicate]; omega) (by rw [List.length_replicate]; omega)
    rw [e]
    simp only [sk_nx, sv_ret, ev_cal, ev_cons, ev_v0, ev_vs, ev_nil, rb_ok, List.append_nil]
    rw [c_trimmedH (h := 0) hp.pos (by rw [mulRows_len, List.length_replicate]; omega) rfl]
    unfold timesM
    rw [if_neg h]
    rfl
/-! ### multiples -/
theorem c_scaled {p c : Int} {a : List Int} (hp : isP p) (ha : Lo p a) (ha1 : a.length ≤ 500) (st : Sto) : callD 3 f_scaled_poly st [.int p, P a, .int c] = .ok (P (scaM p a c)) st := by
  refine cd_ok (fn_ret ?_ (noH_P _)) rfl (by simp) st
  show retD (sRet _ [some (.int p), some (P a), some (.int c), none] []) = _
  have q : q_scaled_poly_1 [some (.int p), some (P a), some (.int c), none] [] = .ok ((a.map (c * ·)).map D.int) [] := by
    refine (lc_map (fg := gNameD 3) (fe := e_scaled_poly_1) (vs := [3]) (wk_seq (f := eVar 1) (sd := [some (.int p), some (P a), some (.int c), none]) (st := []) (st' := []) rfl (sq_P a)) (by simp; unfold lineN; omega) (fun d => .int (c * dI d)) fun i x hx => ?_).trans ?_
    · obtain ⟨hi, rfl⟩ := mi_at hx
      refine ⟨[some (.int p), some (P a), some (.int c), some (.int a[i])], by simp [wipeD], ?_⟩
      show eOp _ _ _ _ _ = _
      simp [o_mul (st := []) (.inr (sm hp (ha.at hi))), dI]
    · rw [List.map_map, List.map_map]; rfl
  simp only [sv_ret, ev_cal, ev_cons, ev_v0, ev_vs, ev_nil, rb_ok, List.append_nil, ev_fz, q]
  rw [c_trimmed hp.pos (by simpa using by omega)]
  rfl
end Gn
namespace Gn
open PySem PySem.Spec PyProof.Rows L2 DS Pm

/-! ### division -/
theorem w_div1 {p : Int} {A : D} {F : List D} {b left : List Int} {k : Nat} {c : Int} {o6 o7 : Option D} (hp : isP p) (hb : Lo p b) (hl : k + b.length ≤ left.length) (o9 o10 : Option D) :
    ∃ sd2 st2, w_divided_in_1 [some (.int p), some A, some (P b), some (.hnd 0), some (.hnd 1), some (.int k), o6, o7, some (.int c), o9, o10] [.lst (left.map D.int), .lst F] = .go .nx sd2 st2 ∧
    ∃ o9 o10, sd2 = [some (.int p), some A, some (P b), some (.hnd 0), some (.hnd 1), some (.int k), o6, o7, some (.int c), o9, o10] ∧ st2 = [.lst ((subRow p left k c b).map D.int), .lst F] := by
  obtain ⟨sd2, st2, e, X, o9', o10', h1, h2, h3, h4⟩ := for_run (fg := gTupD (gNameD 10 :: gNameD 9 :: [])) (b := y_divided_in_1) (wk_enu (f := eVar 2) (sd := [some (.int p), some A, some (P b), some (.hnd 0), some (.hnd 1), some (.int k), o6, o7, some (.int c), o9, o10]) (st := [.lst (left.map D.int), .lst F]) (st' := [.lst (left.map D.int), .lst F]) rfl (sq_P b))
    (fun i sd st => ∃ (X : List Int) (o9 o10 : Option D), sd = [some (.int p), some A, some (P b), some (.hnd 0), some (.hnd 1), some (.int k), o6, o7, some (.int c), o9, o10] ∧ st = [.lst (X.map D.int), .lst F] ∧ X.length = left.length ∧ subRow p X (k + i) c (b.drop i) = subRow p left k c b)
    ⟨left, o9, o10, rfl, rfl, rfl, rfl⟩ (by
      rintro i x _ _ hx ⟨X, o9, o10, rfl, rfl, hX, hr⟩
      obtain ⟨hi, rfl⟩ := en_at hx
      have hk : k + i < X.length := by omega
      refine ⟨[some (.int p), some A, some (P b), some (.hnd 0), some (.hnd 1), some (.int k), o6, o7, some (.int c), some (.int b[i]), some (.int i)], [.lst (X.map D.int), .lst F], _, _, by simp, sv_put (st1 := [.lst (X.map D.int), .lst F]) (st2 := [.lst (X.map D.int), .lst F]) (st3 := [.lst (X.map D.int), .lst F]) (h := 0) (k := ((k + i : Nat) : Int)) (j := k + i) (y := .int ((X.getD (k + i) 0 - c * b[i]) % p)) (xs := X.map D.int) ?_ rfl ?_ rfl (ixN_nat rfl (by simpa using hk)), X.set (k + i) ((X.getD (k + i) 0 - c * b[i]) % p), some (.int b[i]), some (.int i), rfl, ?_, by simpa using hX, ?_⟩
      · have ha : L2.atI (X.map D.int) ((k : Int) + (i : Int)) = some (.int (X.getD (k + i) 0)) := by
          rw [atI_map, atI_lt hk (by omega), getD_lt hk]; rfl
        simp [ha, o_mul (st := [.lst (X.map D.int), .lst F]) (i := c) (.inr (sm hp (hb.at hi))), o_mod hp.pos]
      · simp
      · simp [List.map_set]
      · rw [← hr, List.drop_eq_getElem_cons hi]
        rfl)
  refine ⟨sd2, st2, e, o9', o10', h1, ?_⟩
  have hl : (enuL (b.map D.int)).length = b.length := by simp [enuL]
  rw [hl, List.drop_eq_nil_of_le (Nat.le_refl _)] at h4
  rw [h2, ← h4]
  rfl
theorem rng_back {n : Nat} (h : n ≤ 1000) {m : Int} (hm : m = (n : Int) - 1 ∨ (n = 0 ∧ -1000 ≤ m ∧ m ≤ -1)) : rngOf [.int m, .int (-1), .int (-1)] = some (m, -1, n) := by
  have hs : Builtin.Range.small m (-1) (-1) = true := PySem.W.small_down (by omega) (by omega) (by omega) (by omega)
  have hz : Builtin.Range.rangeSize m (-1) (-1) = n := by
    unfold Builtin.Range.rangeSize
    rw [if_neg (by omega)]
    split
    · rw [show -(-1 : Int) = 1 by rfl, Int.ediv_one]; omega
    · omega
  show (if (-1 : Int) ≠ 0 ∧ (-1 : Int).natAbs < 1073741824 ∧ Builtin.Range.small m (-1) (-1) = true then some (m, (-1 : Int), (Builtin.Range.rangeSize m (-1) (-1)).toNat) else none) = _
  rw [if_pos ⟨by decide, by decide, hs⟩, hz, Int.toNat_natCast]
theorem divRows_step (p : Int) (b : List Int) (inv : Int) (n : Nat) (found left : List Int) : divRows p b inv (n + 1) found left = divRows p b inv n (found.set n (left.getD (n + b.length - 1) 0 * inv % p)) (if left.getD (n + b.length - 1) 0 * inv % p = 0 then left else subRow p left n (left.getD (n + b.length - 1) 0 * inv % p) b) := rfl
theorem w_div2 {p inv : Int} {a b : List Int} {n : Nat} (hp : isP p) (hb : Lo p b) (hb0 : b ≠ []) (hinv : small64 inv = true) (hn : n = a.length + 1 - b.length) (ha : a.length ≤ 900) (hb1 : b.length ≤ 900) :
    ∃ sd2 st2, w_divided_in_2 [some (.int p), some (P a), some (P b), some (.hnd 0), some (.hnd 1), none, some (.int b.length), some (.int inv), none, none, none] [.lst (a.map D.int), .lst ((List.replicate n (0 : Int)).map D.int)] = .go .nx sd2 st2 ∧
    ∃ o5 o8 o9 o10, sd2 = [some (.int p), some (P a), some (P b), some (.hnd 0), some (.hnd 1), o5, some (.int b.length), some (.int inv), o8, o9, o10] ∧ st2 = [.lst ((divRows p b inv n (List.replicate n 0) a).2.map D.int), .lst ((divRows p b inv n (List.replicate n 0) a).1.map D.int)] := by
  have hbl : 0 < b.length := List.length_pos_iff.mpr hb0
  have hw := wk_rng (fs := aCons (eOp (ints2 fun i j => some (.int (i - j))) (eCB lenD (aCons (eVar 1) aNil)) (eVar 6)) (aCons (eUn negD (eC (.int 1))) (aCons (eUn negD (eC (.int 1))) aNil))) (sd := [some (.int p), some (P a), some (P b), some (.hnd 0), some (.hnd 1), none, some (.int b.length), some (.int inv), none, none, none])
    (st := [.lst (a.map D.int), .lst ((List.replicate n (0 : Int)).map D.int)]) (st' := [.lst (a.map D.int), .lst ((List.replicate n (0 : Int)).map D.int)]) (k := 3) (ds := [.int ((a.length : Int) - b.length), .int (-1), .int (-1)]) (by simp) rfl (rng_back (n := n) (m := (a.length : Int) - b.length) (by omega) (by omega))
  obtain ⟨sd2, st2, e, X, Y, o5', o8', o9', o10', h1, h2, h3, h4, h5⟩ := for_run (fg := gNameD 5) (b := y_divided_in_2) hw
    (fun i sd st => ∃ (X Y : List Int) (o5 o8 o9 o10 : Option D), sd = [some (.int p), some (P a), some (P b), some (.hnd 0), some (.hnd 1), o5, some (.int b.length), some (.int inv), o8, o9, o10] ∧ st = [.lst (X.map D.int), .lst (Y.map D.int)] ∧ X.length = a.length ∧ Y.length = n ∧ divRows p b inv (n - i) Y X = divRows p b inv n (List.replicate n 0) a)
    ⟨a, List.replicate n 0, none, none, none, none, rfl, rfl, rfl, by simp, rfl⟩ (by
      rintro i x _ _ hx ⟨X, Y, o5, o8, o9, o10, rfl, rfl, hX, hY, hr⟩
      obtain ⟨hi, rfl⟩ := rg_at hx
      obtain ⟨k, hk⟩ : ∃ k : Nat, n - i = k + 1 := ⟨n - i - 1, by omega⟩
      have hki : (a.length : Int) - b.length + (i : Int) * -1 = (k : Int) := by omega
      rw [hk, divRows_step] at hr
      have hkX : k + b.length - 1 < X.length := by omega
      generalize hc : X.getD (k + b.length - 1) 0 * inv % p = c at hr
      have e8 : eOp (ints2 modI) (eOp mulD (eOp ixD (eVar 3) (eOp (ints2 fun i j => some (.int (i - j))) (eOp addD (eVar 5) (eVar 6)) (eC (.int 1)))) (eVar 7)) (eVar 0) [some (.int p), some (P a), some (P b), some (.hnd 0), some (.hnd 1), some (.int k), some (.int b.length), some (.int inv), o8, o9, o10] [.lst (X.map D.int), .lst (Y.map D.int)] = .ok (.int c) [.lst (X.map D.int), .lst (Y.map D.int)] := by
        have ha : L2.atI (X.map D.int) ((k : Int) + (b.length : Int) - 1) = some (.int (X.getD (k + b.length - 1) 0)) := by
          rw [atI_map, atI_lt hkX (by omega), getD_lt hkX]; rfl
        simp [ha, o_mul (st := [.lst (X.map D.int), .lst (Y.map D.int)]) (.inr hinv), o_mod hp.pos]
        rw [← List.getD_eq_getElem?_getD]
        exact hc
      have put : sPut (eVar 8) (eVar 4) (eVar 5) [some (.int p), some (P a), some (P b), some (.hnd 0), some (.hnd 1), some (.int k), some (.int b.length), some (.int inv), some (.int c), o9, o10] [.lst (X.map D.int), .lst (Y.map D.int)] = .go .nx [some (.int p), some (P a), some (P b), some (.hnd 0), some (.hnd 1), some (.int k), some (.int b.length), some (.int inv), some (.int c), o9, o10] [.lst (X.map D.int), .lst ((Y.set k c).map D.int)] := by
        rw [sv_put (st1 := [.lst (X.map D.int), .lst (Y.map D.int)]) (st2 := [.lst (X.map D.int), .lst (Y.map D.int)]) (st3 := [.lst (X.map D.int), .lst (Y.map D.int)]) (h := 1) (k := (k : Int)) (j := k) (y := .int c) (xs := Y.map D.int) rfl rfl rfl rfl (ixN_nat rfl (by simp; omega))]
        simp [List.map_set]
      rw [hki]
      by_cases h0 : c = 0
      · refine ⟨[some (.int p), some (P a), some (P b), some (.hnd 0), some (.hnd 1), some (.int k), some (.int b.length), some (.int inv), o8, o9, o10], [.lst (X.map D.int), .lst (Y.map D.int)], [some (.int p), some (P a), some (P b), some (.hnd 0), some (.hnd 1), some (.int k), some (.int b.length), some (.int inv), some (.int c), o9, o10], [.lst (X.map D.int), .lst ((Y.set k c).map D.int)], by simp, ?_, X, Y.set k c, some (.int k), some (.int c), o9, o10, rfl, rfl, hX, by simpa using hY, ?_⟩
        · show sSeq (sSet 8 _) (sSeq _ (sIf _ _ _)) _ _ = _
          simp only [sv_seq, sv_set, e8, rs_ok, sk_nx, List.set_cons_succ, List.set_cons_zero, put]
          simp [h0]
        · rw [if_pos h0] at hr
          rw [show n - (i + 1) = k by omega]
          exact hr
      · obtain ⟨sd3, st3, e3, p9, p10, rfl, rfl⟩ := w_div1 (p := p) (A := P a) (F := (Y.set k c).map D.int) (b := b) (left := X) (k := k) (c := c) (o6 := some (.int b.length)) (o7 := some (.int inv)) hp hb (by omega) o9 o10
        refine ⟨[some (.int p), some (P a), some (P b), some (.hnd 0), some (.hnd 1), some (.int k), some (.int b.length), some (.int inv), o8, o9, o10], [.lst (X.map D.int), .lst (Y.map D.int)], _, _, by simp, ?_, subRow p X k c b, Y.set k c, some (.int k), some (.int c), p9, p10, rfl, rfl, by rw [subRow_len]; exact hX, by simpa using hY, ?_⟩
        · show sSeq (sSet 8 _) (sSeq _ (sIf _ _ _)) _ _ = _
          simp only [sv_seq, sv_set, e8, rs_ok, sk_nx, List.set_cons_succ, List.set_cons_zero, put, sv_if, ev_test, ev_op, ev_v0, ev_vs, ev_c, rb_ok, o_neI, ro_some, isB_bl, h0, decide_false, Bool.not_false, if_true]
          exact e3
        · rw [if_neg h0] at hr
          rw [show n - (i + 1) = k by omega]
          exact hr)
  refine ⟨sd2, st2, e, o5', o8', o9', o10', h1, ?_⟩
  have hl : (rngL ((a.length : Int) - b.length) (-1) n).length = n := by simp [rngL]
  rw [hl, Nat.sub_self] at h5
  rw [h2, ← h5]
  rfl
theorem c_divided {p : Int} {a b : List Int} (hp : isP p) (hb : Nrm p b) (hb0 : b ≠ []) (ha1 : a.length ≤ 900) (hb1 : b.length ≤ 900) (st : Sto) : callD 3 f_divided_in st [.int p, P a, P b] = .ok (.tup [P (divM p a b).1, P (divM p a b).2]) st := by
  refine cd_ok (fn_ret ?_ (by simp)) rfl (by simp) st
  show retD (sSeq _ (sSeq _ (sSeq _ (sSeq _ _))) [some (.int p), some (P a), some (P b), none, none, none, none, none, none, none, none] []) = _
  obtain ⟨hl0, hl1⟩ := last_ok hp.pos hb hb0
  have iv := inv_ok hp hl0 hl1
  rw [sv_seq, sv_par2 (x := .int b.length) (y := .int (invM p (lastM b))) (st1 := [])]
  · have q1 : q_divided_in_1 [some (.int p), some (P a), some (P b), none, none, none, some (.int b.length), some (.int (invM p (lastM b))), none, none, none] [] = .ok (a.map D.int) [] := by
      refine (lc_map (fg := gNameD 9) (fe := e_divided_in_1) (vs := [9]) (wk_seq (f := eVar 1) (sd := [some (.int p), some (P a), some (P b), none, none, none, some (.int b.length), some (.int (invM p (lastM b))), none, none, none]) (st := []) (st' := []) rfl (sq_P a)) (by simp; unfold lineN; omega) (fun d => d) fun i x hx => ⟨_, rfl, rfl⟩).trans ?_
      rw [List.map_id']
    have q2 : ∀ st : Sto, q_divided_in_2 [some (.int p), some (P a), some (P b), some (.hnd 0), none, none, some (.int b.length), some (.int (invM p (lastM b))), none, none, none] st = .ok ((List.replicate (a.length + 1 - b.length) (0 : Int)).map D.int) st := fun st =>
      q_zeros (i := (a.length : Int) - b.length + 1) (by simp) (by omega) (by omega) rfl
    obtain ⟨sd2, st2, e, o5, o8, o9, o10, rfl, rfl⟩ := w_div2 (p := p) (inv := invM p (lastM b)) (a := a) (b := b) hp hb.lo hb0 (sm hp ⟨by omega, iv.2.2⟩) rfl ha1 hb1
    simp only [sk_nx, sv_seq, sv_set, ev_hnd, List.set_cons_succ, List.set_cons_zero, q1, rb_ok, rs_ok, q2, List.length_nil, List.nil_append, List.length_cons, List.cons_append, Nat.zero_add]
    rw [e]
    have t1 : callD 2 f_trimmed [.lst ((divRows p b (invM p (lastM b)) (a.length + 1 - b.length) (List.replicate (a.length + 1 - b.length) 0) a).2.map D.int), .lst ((divRows p b (invM p (lastM b)) (a.length + 1 - b.length) (List.replicate (a.length + 1 - b.length) 0) a).1.map D.int)] [.int p, .hnd 1] = _ := c_trimmedH (h := 1) hp.pos (by rw [divRows_len, List.length_replicate]; omega) rfl
    have len2 : ∀ (n : Nat) (found left : List Int), (divRows p b (invM p (lastM b)) n found left).2.length = left.length := by
      intro n
      induction n with
      | zero => intros; rfl
      | succ n ih =>
        intro found left
        rw [divRows_step, ih]
        split
        · rfl
        · exact subRow_len ..
    have t2 : callD 2 f_trimmed [.lst ((divRows p b (invM p (lastM b)) (a.length + 1 - b.length) (List.replicate (a.length + 1 - b.length) 0) a).2.map D.int), .lst ((divRows p b (invM p (lastM b)) (a.length + 1 - b.length) (List.replicate (a.length + 1 - b.length) 0) a).1.map D.int)] [.int p, .hnd 0] = _ := c_trimmedH (h := 0) hp.pos (by rw [len2]; omega) rfl
    simp only [sk_nx, sv_ret, ev_tup, ev_cons, ev_cal, ev_v0, ev_vs, ev_nil, rb_ok, List.append_nil, t1, t2]
    rfl
  · simp [atI_last hb0, c_undone hp hl0 hl1]
theorem c_monic {p : Int} {a : List Int} (hp : isP p) (ha : Nrm p a) (ha1 : a.length ≤ 500) (st : Sto) : callD 2 f_monic_in st [.int p, P a] = .ok (P (monM p a)) st := by
  refine cd_ok (fn_ret ?_ (noH_P _)) rfl (by simp) st
  show retD (sRet _ [some (.int p), some (P a)] []) = _
  unfold monM
  by_cases h : a = []
  · simp [h]; rfl
  · obtain ⟨hl0, hl1⟩ := last_ok hp.pos ha h
    simp [h, atI_last h, c_undone hp hl0 hl1, c_scaled hp ha.lo ha1]
/-! ### common divisors -/
theorem c_common {p : Int} {a b : List Int} (hp : isP p) (ha : Nrm p a) (hb : Nrm p b) (ha1 : a.length ≤ 500) (hb1 : b.length ≤ 500) (st : Sto) : callD 3 f_common_in st [.int p, P a, P b] = .ok (P (monM p (gcdM p a b))) st := by
  refine cd_ok (fn_ret ?_ (noH_P _)) rfl (by simp) st
  show retD (sSeq w_common_in_1 _ [some (.int p), some (P a), some (P b)] []) = _
  obtain ⟨sd2, st2, e, c, d, h1, h2, h3, h4⟩ := while_run (c := t_common_in_1) (b := y_common_in_1) (k := 100000) (n := b.length) (sd := [some (.int p), some (P a), some (P b)]) (st := []) (fun n sd st => ∃ c d : List Int, sd = [some (.int p), some (P c), some (P d)] ∧ st = [] ∧ n = d.length ∧ Nrm p c ∧ Nrm p d ∧ c.length ≤ 500 ∧ d.length ≤ 500 ∧ comM p (d.length + 1) c d = gcdM p a b)
    (fun sd st => ∃ c d : List Int, sd = [some (.int p), some (P c), some (P d)] ∧ Nrm p c ∧ c.length ≤ 500 ∧ c = gcdM p a b) (by omega) ⟨a, b, rfl, rfl, rfl, ha, hb, ha1, hb1, rfl⟩ (by
      rintro n _ _ ⟨c, d, rfl, rfl, rfl, hc, hd, hc1, hd1, hr⟩
      by_cases h : d = []
      · left
        refine ⟨by show eTest _ _ _ = _; simp [h], c, d, rfl, hc, hc1, ?_⟩
        rw [← hr, h]; rfl
      · right
        have hl := divM_len (a := c) h (inv_last hp hd h)
        have hd0 : 0 < d.length := List.length_pos_iff.mpr h
        refine ⟨by show eTest _ _ _ = _; simp [h], (divM p c d).2.length, [some (.int p), some (P d), some (P (divM p c d).2)], [], ?_, by omega, d, (divM p c d).2, rfl, rfl, rfl, hd, (divM_nrm hp.pos c d).2, hd1, by omega, ?_⟩
        · show sPar2 1 2 _ _ _ = _
          rw [sv_par2 (x := P d) (y := P (divM p c d).2) (st1 := [])]
          · rfl
          · have cd := c_divided (a := c) (b := d) hp hd h (by omega) (by omega) []
            have ix : L2.atI [P (divM p c d).1, P (divM p c d).2] 1 = some (P (divM p c d).2) := rfl
            simp [cd, ix]
        · rw [← hr]
          show _ = if d = [] then c else comM p d.length d (divM p c d).2
          rw [if_neg h]
          exact comM_two hp _ _ _ _ (divM_nrm hp.pos c d).2 (by omega) (by omega))
  have e : w_common_in_1 [some (.int p), some (P a), some (P b)] [] = .go .nx sd2 st2 := e
  subst h1
  simp only [sv_seq, e, sk_nx, sv_ret, ev_cal, ev_cons, ev_v0, ev_vs, ev_nil, rb_ok, List.append_nil, c_monic hp h2 h3]
  rw [h4]
  rfl
end Gn
namespace Gn
open PySem PySem.Spec PyProof.Rows L2 DS Pm

theorem P1 : D.tup [D.int 1] = P [1] := id rfl
/-! ### the paper of common divisors -/
def papR (p : Int) (a b : List Int) : List Int × List Int × List Int := papM p (b.length + 1) a b [1] [] [] [1]
def papT (p : Int) (r : List Int × List Int × List Int) : List (List Int) := if r.1 = [] then [[], [], []] else [scaM p r.1 (invM p (lastM r.1)), scaM p r.2.1 (invM p (lastM r.1)), scaM p r.2.2 (invM p (lastM r.1))]
theorem dI_ints (xs : List Int) : (xs.map D.int).map dI = xs := by
  rw [List.map_map]
  exact List.map_id xs
def dP : D → List Int
  | .tup xs => xs.map dI
  | _ => []
@[simp] theorem dP_P (xs : List Int) : dP (P xs) = xs := dI_ints xs
theorem w_paper {p : Int} {a b : List Int} (hp : isP p) (ha : Nrm p a) (hb : Nrm p b) (ha1 : a.length ≤ 150) (hb1 : b.length ≤ 150) :
    ∃ sd2 st2, w_paper_in_1 [some (.int p), some (P a), some (P b), none, some (P a), some (P b), some (P [1]), some (P []), some (P []), some (P [1]), none, none, none] [] = .go .nx sd2 st2 ∧
    ∃ (d1 s w oq orr : Option D), sd2 = [some (.int p), some (P a), some (P b), none, some (P (papR p a b).1), d1, some (P (papR p a b).2.1), some (P (papR p a b).2.2), s, w, oq, orr, none] ∧ st2 = [] ∧ Nrm p (papR p a b).1 ∧ Nrm p (papR p a b).2.1 ∧ Nrm p (papR p a b).2.2 ∧ (papR p a b).1.length ≤ 400 ∧ (papR p a b).2.1.length ≤ 400 ∧ (papR p a b).2.2.length ≤ 400 := by
  have one := one_nrm hp
  refine while_run (n := b.length) (k := 100000) (fun n sd st => ∃ (first second u v s w : List Int) (oq orr : Option D), sd = [some (.int p), some (P a), some (P b), none, some (P first), some (P second), some (P u), some (P v), some (P s), some (P w), oq, orr, none] ∧ st = [] ∧ n = second.length ∧ Nrm p first ∧ Nrm p second ∧ Nrm p u ∧ Nrm p v ∧ Nrm p s ∧ Nrm p w ∧
      first.length ≤ 150 ∧ second.length ≤ 150 ∧ u.length + second.length ≤ 302 ∧ v.length + second.length ≤ 302 ∧ s.length + first.length ≤ 302 ∧ w.length + first.length ≤ 302 ∧ (second.length ≤ first.length ∨ (s.length ≤ 1 ∧ w.length ≤ 1 ∧ u.length ≤ 1 ∧ v.length ≤ 1)) ∧ papM p (second.length + 1) first second u v s w = papR p a b)
    (fun sd st => ∃ (d1 s w oq orr : Option D), sd = [some (.int p), some (P a), some (P b), none, some (P (papR p a b).1), d1, some (P (papR p a b).2.1), some (P (papR p a b).2.2), s, w, oq, orr, none] ∧ st = [] ∧ Nrm p (papR p a b).1 ∧ Nrm p (papR p a b).2.1 ∧ Nrm p (papR p a b).2.2 ∧ (papR p a b).1.length ≤ 400 ∧ (papR p a b).2.1.length ≤ 400 ∧ (papR p a b).2.2.length ≤ 400) (by omega)
    ⟨a, b, [1], [], [], [1], none, none, rfl, rfl, rfl, ha, hb, one, nrm_nil, nrm_nil, one, ha1, hb1, by simp; omega, by simp; omega, by simp; omega, by simp; omega, .inr (by simp), rfl⟩ ?_
  rintro n _ _ ⟨first, second, u, v, s, w, oq, orr, rfl, rfl, rfl, n1, n2, n3, n4, n5, n6, l1, l2, l3, l4, l5, l6, l7, hr⟩
  by_cases h : second = []
  · left
    have e : papR p a b = (first, u, v) := by rw [← hr, h]; rfl
    rw [e]
    refine ⟨by show eTest _ _ _ = _; simp [h], some (P second), some (P s), some (P w), oq, orr, rfl, rfl, n1, n3, n4, by show first.length ≤ 400; omega, by show u.length ≤ 400; omega, by show v.length ≤ 400; omega⟩
  · right
    have hl := divM_len (a := first) h (inv_last hp n2 h)
    have hq := divM_len1 (p := p) first second
    have hd0 : 0 < second.length := List.length_pos_iff.mpr h
    have hn := divM_nrm hp.pos first second
    have t1 := timesM_len (p := p) (divM p first second).1 s
    have t2 := timesM_len (p := p) (divM p first second).1 w
    have p1 := plusM_len (p := p) u (timesM p (divM p first second).1 s) (-1)
    have p2 := plusM_len (p := p) v (timesM p (divM p first second).1 w) (-1)
    rw [papM_step hp u v s w n2 h] at hr
    generalize hQ : (divM p first second).1 = Q at *
    generalize hR : (divM p first second).2 = R at *
    have cd : callD 3 f_divided_in [] [.int p, P first, P second] = .ok (.tup [P Q, P R]) [] := by rw [c_divided hp n2 h (by omega) (by omega), hQ, hR]
    have c1 : callD 3 f_times_in [] [.int p, P Q, P s] = .ok (P (timesM p Q s)) [] := c_times hp hn.1.lo (by omega) (by omega) []
    have c2 : callD 3 f_times_in [] [.int p, P Q, P w] = .ok (P (timesM p Q w)) [] := c_times hp hn.1.lo (by omega) (by omega) []
    have c3 : callD 4 f_plus_in [] [.int p, P u, P (timesM p Q s), .int (-1)] = .ok (P (plusM p u (timesM p Q s) (-1))) [] := c_plus hp (timesM_ok hp.pos _ _).lo (by omega) (by omega) []
    have c4 : callD 4 f_plus_in [] [.int p, P v, P (timesM p Q w), .int (-1)] = .ok (P (plusM p v (timesM p Q w) (-1))) [] := c_plus hp (timesM_ok hp.pos _ _).lo (by omega) (by omega) []
    refine ⟨by show eTest _ _ _ = _; simp [h], R.length, [some (.int p), some (P a), some (P b), none, some (P second), some (P R), some (P s), some (P w), some (P (plusM p u (timesM p Q s) (-1))), some (P (plusM p v (timesM p Q w) (-1))), some (P Q), some (P R), none], [], ?_, by omega, second, R, s, w, plusM p u (timesM p Q s) (-1), plusM p v (timesM p Q w) (-1), some (P Q), some (P R), rfl, rfl, rfl, n2, hn.2, n5, n6, plusM_ok hp.pos _ _ _, plusM_ok hp.pos _ _ _, l2, by omega, by omega, by omega, by omega, by omega, .inl (by omega), hr⟩
    show sSeq _ (sSeq _ (sSeq _ _)) _ _ = _
    have s1 : sAsg (eCal 3 f_divided_in [] (aCons (eVar 0) (aCons (eVar 4) (aCons (eVar 5) aNil)))) (gTupD (gNameD 10 :: gNameD 11 :: [])) [some (.int p), some (P a), some (P b), none, some (P first), some (P second), some (P u), some (P v), some (P s), some (P w), oq, orr, none] [] = .go .nx [some (.int p), some (P a), some (P b), none, some (P first), some (P second), some (P u), some (P v), some (P s), some (P w), some (P Q), some (P R), none] [] := by simp [cd]
    rw [sv_seq, s1, sk_nx, sv_seq, sv_par2 (x := P second) (y := P R) (st1 := []) (by simp), sk_nx, sv_seq, sv_par2 (x := P s) (y := P (plusM p u (timesM p Q s) (-1))) (st1 := []) (by simp [c1, c3]), sk_nx, sv_par2 (x := P w) (y := P (plusM p v (timesM p Q w) (-1))) (st1 := []) (by simp [c2, c4])]
    rfl
theorem c_paper {p : Int} {a b : List Int} (hp : isP p) (ha : Nrm p a) (hb : Nrm p b) (ha1 : a.length ≤ 150) (hb1 : b.length ≤ 150) (st : Sto) : callD 3 f_paper_in st [.int p, P a, P b] = .ok (.tup ((papT p (papR p a b)).map P)) st := by
  refine cd_ok (fn_ret ?_ ?_) rfl (by simp) st
  · show retD (sSeq _ (sSeq w_paper_in_1 (sSeq _ (sSeq _ _))) [some (.int p), some (P a), some (P b), none, none, none, none, none, none, none, none, none, none] []) = _
    obtain ⟨sd2, st2, e, d1, s, w, oq, orr, rfl, rfl, n1, n2, n3, l1, l2, l3⟩ := w_paper hp ha hb ha1 hb1
    have s1 : sAsg (eTup (aCons (eVar 1) (aCons (eVar 2) (aCons (eTup (aCons (eC (.int 1)) aNil)) (aCons (eTup aNil) (aCons (eTup aNil) (aCons (eTup (aCons (eC (.int 1)) aNil)) aNil))))))) (gTupD (gNameD 4 :: gNameD 5 :: gNameD 6 :: gNameD 7 :: gNameD 8 :: gNameD 9 :: [])) [some (.int p), some (P a), some (P b), none, none, none, none, none, none, none, none, none, none] [] = .go .nx [some (.int p), some (P a), some (P b), none, some (P a), some (P b), some (P [1]), some (P []), some (P []), some (P [1]), none, none, none] [] := by
      simp [lineN, P1, P_nil]
    rw [sv_seq, s1, sk_nx, sv_seq, e, sk_nx]
    unfold papT
    by_cases h : (papR p a b).1 = []
    · rw [if_pos h]
      simp [h, lineN, P_nil]
    · rw [if_neg h]
      obtain ⟨hl0, hl1⟩ := last_ok hp.pos n1 h
      have q : q_paper_in_1 [some (.int p), some (P a), some (P b), some (.int (invM p (lastM (papR p a b).1))), some (P (papR p a b).1), d1, some (P (papR p a b).2.1), some (P (papR p a b).2.2), s, w, oq, orr, none] [] = .ok ([P (papR p a b).1, P (papR p a b).2.1, P (papR p a b).2.2].map fun d => P (scaM p (dP d) (invM p (lastM (papR p a b).1)))) [] := by
        refine lc_map (fg := gNameD 12) (fe := e_paper_in_1) (vs := [12]) (wk_seq (f := eTup (aCons (eVar 4) (aCons (eVar 6) (aCons (eVar 7) aNil)))) (st' := []) (d := .tup [P (papR p a b).1, P (papR p a b).2.1, P (papR p a b).2.2]) (by simp [lineN]) rfl) (by simp [lineN]) _ fun i x hx => ?_
        refine ⟨[some (.int p), some (P a), some (P b), some (.int (invM p (lastM (papR p a b).1))), some (P (papR p a b).1), d1, some (P (papR p a b).2.1), some (P (papR p a b).2.2), s, w, oq, orr, some x], by simp [wipeD], ?_⟩
        show eCal _ _ _ _ _ _ = _
        match i, hx with
        | 0, hx => cases hx; simp [c_scaled hp n1.lo (show (papR p a b).1.length ≤ 500 by omega)]
        | 1, hx => cases hx; simp [c_scaled hp n2.lo (show (papR p a b).2.1.length ≤ 500 by omega)]
        | 2, hx => cases hx; simp [c_scaled hp n3.lo (show (papR p a b).2.2.length ≤ 500 by omega)]
        | n + 3, hx => cases hx
      have u := c_undone hp hl0 hl1 []
      simp [h, atI_last h, u, q]
  · unfold papT
    split <;> simp
/-! ### powers -/
theorem c_raised {p : Int} {a : List Int} {k : Nat} (hp : isP p) (ha : Nrm p a) (hk : k ≤ 60) (hl : k * (a.length - 1) ≤ 60) (ha1 : a.length ≤ 61) (st : Sto) : callD 3 f_raised_in st [.int p, P a, .int k] = .ok (P (powLoop p k [1] a k)) st := by
  refine cd_ok (fn_ret ?_ (noH_P _)) rfl (by simp) st
  show retD (sSeq _ (sSeq w_raised_in_1 _) [some (.int p), some (P a), some (.int k), none, none, none] []) = _
  obtain ⟨sd2, st2, e, o4, o5, h1⟩ := while_run (c := t_raised_in_1) (b := y_raised_in_1) (k := 100000) (n := k) (sd := [some (.int p), some (P a), some (.int k), some (P [1]), some (P a), some (.int k)]) (st := []) (fun n sd st => ∃ found square : List Int, sd = [some (.int p), some (P a), some (.int k), some (P found), some (P square), some (.int n)] ∧ st = [] ∧ Nrm p found ∧ Nrm p square ∧ n ≤ 60 ∧ square.length ≤ 61 ∧ (found.length - 1) + n * (square.length - 1) ≤ 60 ∧ powLoop p n found square n = powLoop p k [1] a k)
    (fun sd st => ∃ o4 o5 : Option D, sd = [some (.int p), some (P a), some (.int k), some (P (powLoop p k [1] a k)), o4, o5]) (by omega) ⟨[1], a, rfl, rfl, one_nrm hp, ha, hk, ha1, by simpa using hl, rfl⟩ (by
      rintro n _ _ ⟨found, square, rfl, rfl, n1, n2, hn, l1, l2, hr⟩
      by_cases h : n = 0
      · left
        subst h
        refine ⟨by show eTest _ _ _ = _; simp, some (P square), some (.int (0 : Nat)), ?_⟩
        rw [← hr]; rfl
      · right
        rw [powLoop_step found square h] at hr
        have hpos : (0 : Int) < n := by omega
        have hf : found.length ≤ 61 := by omega
        have c1 : callD 3 f_times_in [] [.int p, P found, P square] = .ok (P (timesM p found square)) [] := c_times hp n1.lo (by omega) (by omega) []
        have c2 : callD 3 f_times_in [] [.int p, P square, P square] = .ok (P (timesM p square square)) [] := c_times hp n2.lo (by omega) (by omega) []
        have dv : divI (n : Int) 2 = some (.int ((n / 2 : Nat) : Int)) := by
          rw [o_div (by decide) (by decide)]
          congr 2
        have md : modI (n : Int) 2 = some (.int ((n % 2 : Nat) : Int)) := by
          rw [o_mod (by decide)]
          congr 2
        have d1 := deg_times (p := p) found square
        have d2 := deg_times (p := p) square square
        have hsplit : n * (square.length - 1) = 2 * ((n / 2) * (square.length - 1)) + (n % 2) * (square.length - 1) := by
          have e : n = 2 * (n / 2) + n % 2 := by omega
          calc n * (square.length - 1) = (2 * (n / 2) + n % 2) * (square.length - 1) := by rw [← e]
            _ = _ := by rw [Nat.add_mul, Nat.mul_assoc]
        have first : sIf (eTest (eOp eqD (eOp (ints2 modI) (eVar 5) (eC (.int 2))) (eC (.int 1)))) (sSet 3 (eCal 3 f_times_in [] (aCons (eVar 0) (aCons (eVar 3) (aCons (eVar 4) aNil))))) sNext [some (.int p), some (P a), some (.int k), some (P found), some (P square), some (.int n)] [] = .go .nx [some (.int p), some (P a), some (.int k), some (P (if n % 2 = 1 then timesM p found square else found)), some (P square), some (.int n)] [] := by
          by_cases ho : n % 2 = 1
          · simp [md, ho, c1]
          · have ho2 : ((n % 2 : Nat) : Int) ≠ 1 := by omega
            simp only [sv_if, ev_test, ev_op, ev_v0, ev_vs, ev_c, rb_ok, o_ints, md, ro_some, o_eqI, isB_bl, rs_ok, ho2, decide_false, if_neg Bool.false_ne_true, sv_next, ho, if_false]
        refine ⟨by show eTest _ _ _ = _; simp; omega, n / 2, [some (.int p), some (P a), some (.int k), some (P (if n % 2 = 1 then timesM p found square else found)), some (P (if 1 < n then timesM p square square else square)), some (.int ((n / 2 : Nat) : Int))], [], ?_, by omega, _, _, rfl, rfl, ?_, ?_, by omega, ?_, ?_, hr⟩
        · show sSeq _ (sPar2 4 5 _) _ _ = _
          rw [sv_seq, first, sk_nx]
          by_cases h1 : 1 < n
          · have h1' : (1 : Int) < n := by omega
            rw [sv_par2 (x := P (timesM p square square)) (y := .int ((n / 2 : Nat) : Int)) (st1 := []) (by simp only [ev_cons, ev_if, ev_test, ev_op, ev_v0, ev_vs, ev_c, ev_cal, ev_nil, rb_ok, o_ints, ro_some, isB_bl, h1', decide_true, if_true, c2, dv, List.append_nil]), if_pos h1]
            rfl
          · have h1' : ¬ (1 : Int) < n := by omega
            rw [sv_par2 (x := P square) (y := .int ((n / 2 : Nat) : Int)) (st1 := []) (by simp only [ev_cons, ev_if, ev_test, ev_op, ev_v0, ev_vs, ev_c, ev_cal, ev_nil, rb_ok, o_ints, ro_some, isB_bl, h1', decide_false, if_neg Bool.false_ne_true, dv, List.append_nil]), if_neg h1]
            rfl
        · split
          · exact timesM_ok hp.pos _ _
          · exact n1
        · split
          · exact timesM_ok hp.pos _ _
          · exact n2
        · split
          · rename_i h1
            have : 2 * (square.length - 1) ≤ n * (square.length - 1) := Nat.mul_le_mul_right _ h1
            omega
          · exact l1
        · have hS : (n / 2) * ((if 1 < n then timesM p square square else square).length - 1) ≤ 2 * ((n / 2) * (square.length - 1)) := by
            by_cases h1 : 1 < n
            · rw [if_pos h1]
              calc (n / 2) * ((timesM p square square).length - 1) ≤ (n / 2) * ((square.length - 1) + (square.length - 1)) := Nat.mul_le_mul_left _ d2
                _ = _ := by rw [Nat.mul_add]; omega
            · rw [show n / 2 = 0 by omega]; simp
          by_cases ho : n % 2 = 1
          · rw [if_pos ho]
            rw [ho] at hsplit
            omega
          · rw [if_neg ho]
            omega)
  have e : w_raised_in_1 [some (.int p), some (P a), some (.int k), some (P [1]), some (P a), some (.int k)] [] = .go .nx sd2 st2 := e
  subst h1
  rw [sv_seq, sv_par3 (x := P [1]) (y := P a) (z := .int k) (st1 := []) (by simp [lineN, P1, P_nil]), sk_nx]
  simp only [List.set_cons_succ, List.set_cons_zero, sv_seq, e, sk_nx]
  rfl
end Gn
namespace Gn
open PySem PySem.Spec PyProof.Rows L2 DS Pm

/-! ### slopes, values -/
theorem cut_tail {α : Type} (xs : List α) : cutG xs (some 1) none = xs.drop 1 := by
  unfold cutG
  have h1 : HT.sIx xs.length 0 (some 1) = min 1 xs.length := rfl
  have h2 : HT.sIx xs.length xs.length none = xs.length := rfl
  rw [h1, h2]
  rcases xs with _ | ⟨x, xs⟩
  · rfl
  · have : min 1 (x :: xs).length = 1 := by simp
    rw [this, List.take_of_length_le (by simp)]
theorem o_cutL {f : EE} {sd : Sl} {st st1 : Sto} {xs : List D} {lo hi : EO} {l u : Option Int} (e1 : f sd st = .ok (.lst xs) st1) (e2 : lo sd st1 = .ok l st1) (e3 : hi sd st1 = .ok u st1) : fCutL f lo hi sd st = .ok (cutG xs l u) st1 := by
  unfold fCutL
  rw [e1, rb_ok, e2, rb_ok, e3, rb_ok]
  rfl
theorem c_slope {p : Int} {a : List Int} (hp : isP p) (ha : Lo p a) (ha1 : a.length ≤ 500) (st : Sto) : callD 2 f_slope_of_poly st [.int p, P a] = .ok (P (sloM p a)) st := by
  refine cd_ok (fn_ret ?_ (noH_P _)) rfl (by simp) st
  show retD (sRet _ [some (.int p), some (P a), none, none] []) = _
  have q : q_slope_of_poly_1 [some (.int p), some (P a), none, none] [] = .ok ((a.zipIdx.map fun q => (q.2 : Int) * q.1).map D.int) [] := by
    refine (lc_map (fg := gTupD (gNameD 2 :: gNameD 3 :: [])) (fe := e_slope_of_poly_1) (vs := [2, 3]) (wk_enu (f := eVar 1) (sd := [some (.int p), some (P a), none, none]) (st := []) (st' := []) rfl (sq_P a)) (by simp; unfold lineN; omega) (fun d => match d with
      | .tup [.int i, .int x] => .int (i * x)
      | d => d) fun i x hx => ?_).trans ?_
    · obtain ⟨hi, rfl⟩ := en_at hx
      refine ⟨[some (.int p), some (P a), some (.int i), some (.int a[i])], by simp [wipeD], ?_⟩
      show eOp _ _ _ _ _ = _
      simp [o_mul (st := []) (i := (i : Int)) (.inr (sm hp (ha.at hi)))]
    · unfold enuL
      rw [List.map_map, List.map_map]
      congr 1
      rw [List.zipIdx_map, List.map_map]
      apply List.map_congr_left
      intro q _
      rfl
  have e := o_cutL (f := eFz q_slope_of_poly_1) (lo := oAt (eC (.int 1))) (hi := oNo) (sd := [some (.int p), some (P a), none, none]) (st := []) (by rw [ev_fz, q]; rfl) (show _ = Res.ok (some 1) [] from rfl) rfl
  simp only [sv_ret, ev_cal, ev_cons, ev_v0, ev_vs, ev_nil, rb_ok, List.append_nil, ev_fz] at e ⊢
  rw [e, cut_tail, ← List.map_drop]
  simp only [rb_ok]
  rw [c_trimmed hp.pos (by simp; omega)]
  rfl
theorem rev_P {f : EE} {sd : Sl} {st : Sto} {a : List Int} (h : f sd st = .ok (P a) st) : eRevT f sd st = .ok (P a.reverse) st := by
  unfold eRevT
  rw [h]
  show Res.ok (D.tup (a.map D.int).reverse) st = _
  rw [← List.map_reverse]
  rfl
theorem foldl_take {α β : Type} (f : β → α → β) (b : β) (xs : List α) {i : Nat} (h : i < xs.length) : (xs.take (i + 1)).foldl f b = f ((xs.take i).foldl f b) xs[i] := by
  rw [List.take_add_one, List.getElem?_eq_getElem h, List.foldl_append]
  rfl
theorem val_lo {p : Int} (hp : isP p) (xs : List Int) (x : Int) : 0 ≤ xs.foldl (fun acc e => (acc * x + e) % p) 0 ∧ xs.foldl (fun acc e => (acc * x + e) % p) 0 < p := by
  have hpos := hp.pos
  suffices h : ∀ c, 0 ≤ c ∧ c < p → 0 ≤ xs.foldl (fun acc e => (acc * x + e) % p) c ∧ xs.foldl (fun acc e => (acc * x + e) % p) c < p from h 0 ⟨Int.le_refl _, hpos⟩
  induction xs with
  | nil => exact fun c h => h
  | cons y ys ih => exact fun c h => ih _ ⟨Int.emod_nonneg _ (by omega), Int.emod_lt_of_pos _ hpos⟩
theorem c_value {p x : Int} {a : List Int} (hp : isP p) (st : Sto) : callD 3 f_value_in st [.int p, P a, .int x] = .ok (.int (valM p a x)) st := by
  refine cd_ok (fn_ret ?_ rfl) rfl (by simp) st
  show retD (sSeq _ (sSeq w_value_in_1 _) [some (.int p), some (P a), some (.int x), none, none] []) = _
  obtain ⟨sd2, st2, e, o4, h1, h2⟩ := for_run (fg := gNameD 4) (b := y_value_in_1) (wk_seq (f := eRevT (eVar 1)) (sd := [some (.int p), some (P a), some (.int x), some (.int 0), none]) (st := []) (st' := []) (rev_P rfl) (sq_P a.reverse))
    (fun i sd st => ∃ o4 : Option D, sd = [some (.int p), some (P a), some (.int x), some (.int ((a.reverse.take i).foldl (fun acc e => (acc * x + e) % p) 0)), o4] ∧ st = []) ⟨none, by simp, rfl⟩ (by
      rintro i d _ _ hx ⟨o4, rfl, rfl⟩
      obtain ⟨hi, rfl⟩ := mi_at hx
      refine ⟨[some (.int p), some (P a), some (.int x), some (.int ((a.reverse.take i).foldl (fun acc e => (acc * x + e) % p) 0)), some (.int a.reverse[i])], [], _, _, by simp, ?_, some (.int a.reverse[i]), rfl, rfl⟩
      show sSet 3 _ _ _ = _
      have hm := o_mul (st := []) (j := x) (.inl (sm hp (val_lo hp (a.reverse.take i) x)))
      simp only [sv_set, ev_op, ev_v0, ev_vs, rb_ok, hm, ro_some, o_add, o_ints, o_mod hp.pos, rs_ok, List.set_cons_succ, List.set_cons_zero, foldl_take _ _ _ hi])
  have e : w_value_in_1 [some (.int p), some (P a), some (.int x), some (.int 0), none] [] = .go .nx sd2 st2 := e
  rw [List.length_map, List.take_length] at h1
  subst h1
  simp only [sv_seq, sv_set, ev_c, rs_ok, sk_nx, List.set_cons_succ, List.set_cons_zero, e, sv_ret, ev_vs, ev_v0, retD_ret]
  rfl
/-! ### what is asked of arguments -/
theorem cst_P : c_PRIMES = P [2, 3, 5, 7] := id rfl
theorem cst_60 : c_MAX_POWER = .int 60 := id rfl
theorem cst_F : c_MOST_FIGURES = .int 1000000000000000000000000000000000000000000000000000000000000 := id rfl
theorem inv_ints (p : Int) (ns : List Int) : inV (.int p) (ns.map V.int) = decide (p ∈ ns) := by
  unfold inV
  induction ns with
  | nil => rfl
  | cons n ns ih =>
    rw [List.map_cons, List.any_cons, ih]
    show ((n == p) || decide (p ∈ ns)) = _
    by_cases h : n = p
    · simp [h]
    · have h2 : ¬ p = n := fun z => h z.symm
      simp [h, h2]
theorem flat_ints (ns : List Int) : flatDs (ns.map D.int) = some (ns.map V.int) := by
  induction ns with
  | nil => rfl
  | cons n ns ih =>
    show (match flatD (.int n), flatDs (ns.map D.int) with
      | some a, some as => some (a :: as)
      | _, _ => none) = _
    rw [ih]; rfl
theorem in_P (neg : Bool) (p : Int) (ns : List Int) (st : Sto) : inD neg st (.int p) (P ns) = some (.bl (if neg = true then !decide (p ∈ ns) else decide (p ∈ ns))) := by
  have h : inB st (.int p) (P ns) = some (decide (p ∈ ns)) := by
    show (flatDs (ns.map D.int)).map (fun bs => inV (.int p) bs) = _
    rw [flat_ints]
    show some (inV (.int p) (ns.map V.int)) = _
    rw [inv_ints]
  unfold inD
  rw [h]; rfl
theorem c_req_prime {p : Int} (hp : isP p) (st : Sto) : callD 1 f_require_prime st [.int p] = .ok .non st := by
  refine cd_ok (fn_nx ?_) rfl rfl st
  show nxD (sIf _ _ _ [some (.int p)] []) = _
  have hm : p ∈ [(2 : Int), 3, 5, 7] := by rcases hp with h | h | h | h <;> simp [h]
  simp [c_is_whole, cst_P, in_P, hm]
def polyB (p : Int) (xs : List Int) : Bool := xs.all (fun x => decide (0 ≤ x) && decide (x ≤ p - 1)) && (decide (xs = []) || !decide (lastM xs = 0))
theorem kit_tt : kitB "tuple" "tuple" = some true := by decide +kernel
theorem bls_map (xs : List Int) (g : Int → Bool) : blsOf ((xs.map D.int).map fun d => .bl (g (dI d))) = some (xs.map g) := by
  induction xs with
  | nil => rfl
  | cons x xs ih =>
    show (blsOf ((xs.map D.int).map fun d => .bl (g (dI d)))).map (g x :: ·) = _
    rw [ih]; rfl
theorem c_poly_any {p : Int} {xs : List Int} (hl : xs.length ≤ 1000) (st : Sto) : callD 2 f_is_poly_any st [.int p, P xs] = .ok (.bl (polyB p xs)) st := by
  refine cd_ok (fn_ret ?_ rfl) rfl (by simp) st
  show retD (sSeq (sIf (eOr (eNot (eTest (eCB isiD (aCons (eVar 1) (aCons (eC (.ty "tuple")) aNil))))) (eNot (eTest (eCB _ (aCons (eFz q_is_poly_any_1) aNil))))) _ _) (sRet (eOrV _ _)) [some (.int p), some (P xs), none] []) = _
  have i1 : isiD [] [P xs, .ty "tuple"] = some (.bl true) := by
    show (some "tuple").bind (fun c => (kitB c "tuple").map D.bl) = _
    show (kitB "tuple" "tuple").map D.bl = _
    rw [kit_tt]; rfl
  have q : q_is_poly_any_1 [some (.int p), some (P xs), none] [] = .ok ((xs.map D.int).map fun d => .bl (decide (0 ≤ dI d) && decide (dI d ≤ p - 1))) [] := by
    refine lc_map (fg := gNameD 2) (fe := e_is_poly_any_1) (vs := [2]) (wk_seq (f := eVar 1) (sd := [some (.int p), some (P xs), none]) (st := []) (st' := []) rfl (sq_P xs)) (by simp; unfold lineN; omega) _ fun i x hx => ?_
    obtain ⟨hi, rfl⟩ := mi_at hx
    refine ⟨[some (.int p), some (P xs), some (.int xs[i])], by simp [wipeD], ?_⟩
    show eCal _ _ _ _ _ _ = _
    simp [c_is_within, dI]
    rfl
  have a1 : onB (fun bs => some (.bl (bs.all id))) [] [.lst ((xs.map D.int).map fun d => .bl (decide (0 ≤ dI d) && decide (dI d ≤ p - 1)))] = some (.bl (xs.all fun x => decide (0 ≤ x) && decide (x ≤ p - 1))) := by
    show (blsOf ((xs.map D.int).map fun d => .bl (decide (0 ≤ dI d) && decide (dI d ≤ p - 1)))).bind _ = _
    rw [bls_map xs fun x => decide (0 ≤ x) && decide (x ≤ p - 1)]
    show some (D.bl ((xs.map fun x => decide (0 ≤ x) && decide (x ≤ p - 1)).all id)) = _
    rw [List.all_map]; rfl
  have tst : eOr (eNot (eTest (eCB isiD (aCons (eVar 1) (aCons (eC (.ty "tuple")) aNil))))) (eNot (eTest (eCB (onB fun bs => some (.bl (bs.all id))) (aCons (eFz q_is_poly_any_1) aNil)))) [some (.int p), some (P xs), none] [] = .ok (!(xs.all fun x => decide (0 ≤ x) && decide (x ≤ p - 1))) [] := by
    simp only [ev_or, ev_not, ev_test, ev_cb, ev_cons, ev_vs, ev_v0, ev_c, ev_nil, rb_ok, i1, ro_some, isB_bl, Bool.not_true, if_neg Bool.false_ne_true, ev_fz, q, a1]
  rw [sv_seq, sv_if, tst, rs_ok]
  unfold polyB
  cases h : xs.all fun x => decide (0 ≤ x) && decide (x ≤ p - 1) with
  | false => rfl
  | true =>
    rw [Bool.not_true, if_neg Bool.false_ne_true, sv_next, sk_nx, sv_ret, ev_orV' (k := decide (xs = [])) (st1 := [])]
    · by_cases h0 : xs = []
      · simp [h0]
      · simp [h0, atI_last h0]
    · simp
theorem poly_of {p : Int} {xs : List Int} (h : Nrm p xs) : polyB p xs = true := by
  unfold polyB
  rw [Bool.and_eq_true]
  refine ⟨List.all_eq_true.mpr fun x hx => by have := h.lo x hx; simp; omega, ?_⟩
  rcases trim_last h.tr with e | e
  · simp [e]
  · have : lastM xs ≠ 0 := e
    simp [this]
theorem c_req_poly {p : Int} {xs : List Int} (h : Nrm p xs) (hl : xs.length ≤ 61) (st : Sto) : callD 2 f_require_poly st [.int p, P xs] = .ok .non st := by
  refine cd_ok (fn_nx ?_) rfl (by simp) st
  show nxD (sIf _ _ _ [some (.int p), some (P xs)] []) = _
  have hl2 : ¬ (60 : Int) + 1 < xs.length := by omega
  have ca := c_poly_any (p := p) (xs := xs) (by omega) []
  rw [poly_of h] at ca
  have e60 : eC c_MAX_POWER [some (.int p), some (P xs)] [] = .ok (.int 60) [] := rfl
  simp only [sv_if, ev_or, ev_not, ev_test, ev_cal, ev_cons, ev_v0, ev_vs, ev_nil, rb_ok, List.append_nil, ca, ro_some, isB_bl, Bool.not_true, if_neg Bool.false_ne_true, ev_op, ev_cb, l_lenP, ev_c, cst_60, o_add, o_ints, hl2, decide_false, rs_ok, sv_next, nxD_nx]
theorem c_req_within {i a b : Int} (h : a ≤ i ∧ i ≤ b) (st : Sto) : callD 3 f_require_within st [.int i, .int a, .int b] = .ok .non st := by
  refine cd_ok (fn_nx ?_) rfl rfl st
  show nxD (sIf _ _ _ [some (.int i), some (.int a), some (.int b)] []) = _
  simp [c_is_within, h.1, h.2]
theorem c_is_integer {i : Int} (h : -(10 ^ 60) < i ∧ i < 10 ^ 60) (st : Sto) : callD 1 f_is_integer st [.int i] = .ok (.bl true) st := by
  refine cd_ok (fn_ret ?_ rfl) rfl rfl st
  show retD (sRet (eAndV (eCal 1 f_is_whole [] (aCons (eVar 0) aNil)) _) [some (.int i)] []) = _
  have e1 : eCal 1 f_is_whole [] (aCons (eVar 0) aNil) [some (.int i)] [] = .ok (.bl true) [] := by simp [c_is_whole]
  have e2 : (10 : Int) ^ 60 = 1000000000000000000000000000000000000000000000000000000000000 := by decide
  rw [e2] at h
  rw [sv_ret, ev_andV' e1, if_pos rfl, ev_chain (st1 := []) (st2 := []) (x := .int (-1000000000000000000000000000000000000000000000000000000000000)) (y := .int i) (k := decide (-1000000000000000000000000000000000000000000000000000000000000 < i)) rfl rfl rfl]
  have e3 : eC c_MOST_FIGURES [some (.int i)] [] = .ok (.int 1000000000000000000000000000000000000000000000000000000000000) [] := rfl
  simp [h.1, h.2, cst_F]
theorem c_req_integer {i : Int} (h : -(10 ^ 60) < i ∧ i < 10 ^ 60) (st : Sto) : callD 1 f_require_integer st [.int i] = .ok .non st := by
  refine cd_ok (fn_nx ?_) rfl rfl st
  show nxD (sIf _ _ _ [some (.int i)] []) = _
  simp [c_is_integer h]
theorem c_req_two {p : Int} {a b : List Int} (hp : isP p) (ha : Nrm p a) (hb : Nrm p b) (ha1 : a.length ≤ 61) (hb1 : b.length ≤ 61) (st : Sto) : callD 3 f_require_two st [.int p, P a, P b] = .ok .non st := by
  refine cd_ok (fn_nx ?_) rfl (by simp) st
  show nxD (sSeq _ (sSeq _ _) [some (.int p), some (P a), some (P b)] []) = _
  simp [c_req_prime hp, c_req_poly ha ha1, c_req_poly hb hb1]
theorem c_is_poly {p : Int} {xs : List Int} (hp : isP p) (hl : xs.length ≤ 1000) (st : Sto) : callD 2 f_is_poly st [.int p, P xs] = .ok (.bl (polyB p xs && decide (xs.length ≤ 61))) st := by
  refine cd_ok (fn_ret ?_ rfl) rfl (by simp) st
  show retD (sSeq _ (sRet (eAndV _ _)) [some (.int p), some (P xs)] []) = _
  have e1 : eCal 2 f_is_poly_any [] (aCons (eVar 0) (aCons (eVar 1) aNil)) [some (.int p), some (P xs)] [] = .ok (.bl (polyB p xs)) [] := by simp [c_poly_any hl]
  have e60 : eC c_MAX_POWER [some (.int p), some (P xs)] [] = .ok (.int 60) [] := rfl
  have hd : decide ((xs.length : Int) ≤ 60 + 1) = decide (xs.length ≤ 61) := by
    by_cases h : xs.length ≤ 61
    · rw [decide_eq_true h, decide_eq_true (by omega)]
    · rw [decide_eq_false h, decide_eq_false (by omega)]
  simp only [sv_seq, sv_drop, ev_cal, ev_cons, ev_v0, ev_vs, ev_nil, rb_ok, List.append_nil, c_req_prime hp, rs_ok, sk_nx, sv_ret] at e1 ⊢
  rw [ev_andV' (k := polyB p xs) (st1 := []) (by simp only [ev_cal, ev_cons, ev_v0, ev_vs, ev_nil, rb_ok, List.append_nil, e1])]
  cases polyB p xs with
  | false => rfl
  | true => simp only [if_true, ev_op, ev_cb, ev_cons, ev_vs, ev_v0, ev_nil, rb_ok, l_lenP, ro_some, ev_c, cst_60, o_add, o_ints, hd, rs_ok, retD_ret, Bool.true_and]
/-! ### the functions of the package -/
section
variable {p : Int} {a b : List Int} (hp : isP p) (ha : Nrm p a) (hb : Nrm p b) (ha1 : a.length ≤ 61) (hb1 : b.length ≤ 61) (st : Sto)
include hp ha ha1
include hb hb1
theorem c_poly_sum {t : Int} (ht : -(10 ^ 60) < t ∧ t < 10 ^ 60) : callD 4 f_poly_sum st [.int p, P a, P b, .int t] = .ok (P (plusM p a b t)) st := by
  refine cd_ok (fn_ret ?_ (noH_P _)) rfl (by simp) st
  show retD (sSeq _ (sSeq _ _) [some (.int p), some (P a), some (P b), some (.int t)] []) = _
  simp [c_req_two hp ha hb ha1 hb1, c_req_integer ht, c_plus hp hb.lo (show a.length ≤ 500 by omega) (show b.length ≤ 500 by omega)]
theorem c_poly_product : callD 3 f_poly_product st [.int p, P a, P b] = .ok (P (timesM p a b)) st := by
  refine cd_ok (fn_ret ?_ (noH_P _)) rfl (by simp) st
  show retD (sSeq _ _ [some (.int p), some (P a), some (P b)] []) = _
  simp [c_req_two hp ha hb ha1 hb1, c_times hp ha.lo (show a.length ≤ 400 by omega) (show b.length ≤ 400 by omega)]
theorem c_poly_division (hn : b ≠ []) : callD 3 f_poly_division st [.int p, P a, P b] = .ok (.tup [P (divM p a b).1, P (divM p a b).2]) st := by
  refine cd_ok (fn_ret ?_ (by simp)) rfl (by simp) st
  show retD (sSeq _ (sSeq _ _) [some (.int p), some (P a), some (P b)] []) = _
  simp [c_req_two hp ha hb ha1 hb1, hn, c_divided hp hb hn (show a.length ≤ 900 by omega) (show b.length ≤ 900 by omega)]
theorem c_common_poly : callD 3 f_common_poly st [.int p, P a, P b] = .ok (P (monM p (gcdM p a b))) st := by
  refine cd_ok (fn_ret ?_ (noH_P _)) rfl (by simp) st
  show retD (sSeq _ _ [some (.int p), some (P a), some (P b)] []) = _
  simp [c_req_two hp ha hb ha1 hb1, c_common hp ha hb (show a.length ≤ 500 by omega) (show b.length ≤ 500 by omega)]
theorem c_common_paper : callD 3 f_common_paper st [.int p, P a, P b] = .ok (.tup ((papT p (papR p a b)).map P)) st := by
  refine cd_ok (fn_ret ?_ (by unfold papT; split <;> simp)) rfl (by simp) st
  show retD (sSeq _ _ [some (.int p), some (P a), some (P b)] []) = _
  simp [c_req_two hp ha hb ha1 hb1, c_paper hp ha hb (show a.length ≤ 150 by omega) (show b.length ≤ 150 by omega)]
omit hb hb1
theorem c_poly_power {k : Nat} (hk : k ≤ 60) (hl : k * (a.length - 1) ≤ 60) : callD 3 f_poly_power st [.int p, P a, .int k] = .ok (P (repM p a k)) st := by
  refine cd_ok (fn_ret ?_ (noH_P _)) rfl (by simp) st
  show retD (sSeq _ (sSeq _ (sSeq _ _)) [some (.int p), some (P a), some (.int k)] []) = _
  have e60 : eC c_MAX_POWER [some (.int p), some (P a), some (.int k)] [] = .ok (.int 60) [] := rfl
  have hk2 : (k : Int) ≤ 60 := by omega
  have e : callD 3 f_require_within [] [.int k, .int 0, .int 60] = .ok .non [] := c_req_within ⟨by omega, by omega⟩ []
  simp only [sv_seq, sv_drop, ev_cal, ev_cons, ev_v0, ev_vs, ev_nil, rb_ok, List.append_nil, c_req_prime hp, rs_ok, sk_nx, sv_ret, c_req_poly ha ha1, ev_c, cst_60, e, c_raised hp ha hk hl ha1, retD_ret, pow_rep hp a k k (Nat.le_refl _)]
theorem c_poly_slope : callD 2 f_poly_slope st [.int p, P a] = .ok (P (sloM p a)) st := by
  refine cd_ok (fn_ret ?_ (noH_P _)) rfl (by simp) st
  show retD (sSeq _ (sSeq _ _) [some (.int p), some (P a)] []) = _
  simp [c_req_prime hp, c_req_poly ha ha1, c_slope hp ha.lo (show a.length ≤ 500 by omega)]
theorem c_poly_at {x : Int} (hx : -(10 ^ 60) < x ∧ x < 10 ^ 60) : callD 3 f_poly_at st [.int p, P a, .int x] = .ok (.int (valM p a x)) st := by
  refine cd_ok (fn_ret ?_ rfl) rfl (by simp) st
  show retD (sSeq _ (sSeq _ (sSeq _ _)) [some (.int p), some (P a), some (.int x)] []) = _
  simp [c_req_prime hp, c_req_poly ha ha1, c_req_integer hx, c_value hp]
end
end Gn
namespace Gn
open PySem PySem.Spec PyProof.Rows L2 DS Pm

/-! ### the law's own: cutting -/
theorem u_cut {xs : List Int} (hl : xs.length ≤ 1000) : f__law_po_cut [] [.lst (xs.map D.int)] = .ok (P (trim xs)) [] := by
  refine fn_ret ?_ (noH_P _)
  show retD (sSeq _ (sSeq w__law_po_cut_1 _) [some (.lst (xs.map D.int)), none, none] []) = _
  obtain ⟨sd2, st2, e, m, h1, h2, h3, h4⟩ := while_run (c := t__law_po_cut_1) (b := y__law_po_cut_1) (k := 100000) (n := xs.length) (sd := [some (.lst (xs.map D.int)), some (.int xs.length), none]) (st := []) (fun n sd st => sd = [some (.lst (xs.map D.int)), some (.int n), none] ∧ st = [] ∧ n ≤ xs.length ∧ trim (xs.take n) = trim xs)
    (fun sd st => ∃ m : Nat, sd = [some (.lst (xs.map D.int)), some (.int m), none] ∧ st = [] ∧ m ≤ xs.length ∧ xs.take m = trim xs) (by omega) ⟨rfl, rfl, Nat.le_refl _, by rw [List.take_length]⟩ (by
      rintro n _ _ ⟨rfl, rfl, hn, hr⟩
      cases n with
      | zero =>
        left
        exact ⟨by show eAnd _ _ _ _ = _; simp, 0, rfl, rfl, hn, hr⟩
      | succ n =>
        have ha : L2.atI (xs.map D.int) (((n + 1 : Nat) : Int) - 1) = some (.int xs[n]) := by
          rw [atI_map, atI_lt (show n < xs.length by omega) (by omega)]; rfl
        have hpos : (0 : Int) < ((n + 1 : Nat) : Int) := by omega
        have et : xs.take (n + 1) = xs.take n ++ [xs[n]] := by rw [List.take_add_one, List.getElem?_eq_getElem (show n < xs.length by omega)]; rfl
        have tst : t__law_po_cut_1 [some (.lst (xs.map D.int)), some (.int ((n + 1 : Nat) : Int)), none] [] = .ok (decide (xs[n] = 0)) [] := by
          show eAnd _ _ _ _ = _
          simp only [ev_and, ev_test, ev_op, ev_v0, ev_vs, ev_c, rb_ok, o_ints, ro_some, isB_bl, hpos, decide_true, if_true, x_L, ha, o_eqI]
        by_cases h0 : xs[n] = 0
        · right
          refine ⟨by rw [tst, h0]; rfl, n, [some (.lst (xs.map D.int)), some (.int n), none], [], ?_, by omega, rfl, rfl, by omega, ?_⟩
          · show sSet 1 _ _ _ = _
            have e1 : ((n + 1 : Nat) : Int) - 1 = (n : Int) := by omega
            simp only [sv_set, ev_op, ev_v0, ev_vs, ev_c, rb_ok, o_ints, ro_some, rs_ok, List.set_cons_succ, List.set_cons_zero, e1]
          · rw [← hr, et, h0, trim_zero]
        · left
          refine ⟨by rw [tst]; simp [h0], n + 1, rfl, rfl, hn, ?_⟩
          rw [← hr, et, trim_nz _ h0])
  have e : w__law_po_cut_1 [some (.lst (xs.map D.int)), some (.int xs.length), none] [] = .go .nx sd2 st2 := e
  subst h1 h2
  have q : q__law_po_cut_1 [some (.lst (xs.map D.int)), some (.int m), none] [] = .ok ((trim xs).map D.int) [] := by
    refine (lc_map (fg := gNameD 2) (fe := e__law_po_cut_1) (vs := [2]) (wk_rng (fs := aCons (eVar 1) aNil) (sd := [some (.lst (xs.map D.int)), some (.int m), none]) (st := []) (st' := []) (k := 1) (ds := [.int m]) (by simp) rfl (rng1 (n := m) (by omega))) (by unfold lineN; omega) (fun d => .int (xs.getD (dI d).toNat 0)) fun i x hx => ?_).trans ?_
    · obtain ⟨hi, rfl⟩ := rg_at hx
      refine ⟨[some (.lst (xs.map D.int)), some (.int m), some (.int (0 + (i : Int) * 1))], by simp [wipeD], ?_⟩
      show eOp _ _ _ _ _ = _
      have ha : L2.atI (xs.map D.int) (0 + (i : Int) * 1) = some (.int (xs.getD i 0)) := by
        rw [atI_map, atI_lt (show i < xs.length by omega) (by omega), getD_lt (show i < xs.length by omega)]; rfl
      have hd : (dI (.int (0 + (i : Int) * 1))).toNat = i := by show (0 + (i : Int) * 1).toNat = i; omega
      simp only [ev_op, ev_v0, ev_vs, rb_ok, x_L, ha, ro_some, hd]
    · rw [← h4]
      unfold rngL
      rw [List.map_map]
      congr 1
      apply List.ext_getElem?
      intro i
      rw [List.getElem?_map, List.getElem?_map, List.getElem?_take]
      by_cases hi : i < m
      · rw [List.getElem?_range hi, if_pos hi, List.getElem?_eq_getElem (show i < xs.length by omega)]
        have hd : (dI (.int (0 + (i : Int) * 1))).toNat = i := by show (0 + (i : Int) * 1).toNat = i; omega
        simp only [Option.map_some, Function.comp_apply, hd, getD_lt (show i < xs.length by omega)]
      · rw [List.getElem?_eq_none (by simpa using hi), if_neg hi]; rfl
  simp only [sv_seq, sv_set, ev_cb, ev_cons, ev_v0, ev_nil, rb_ok, l_lenL, List.length_map, ro_some, rs_ok, sk_nx, List.set_cons_succ, List.set_cons_zero, e, sv_ret, ev_fz, q, t_lst, retD_ret, P_fold]
theorem c_cut {xs : List Int} (hl : xs.length ≤ 1000) (st : Sto) : callD 1 f__law_po_cut st [.lst (xs.map D.int)] = .ok (P (trim xs)) st := cd_ok (u_cut hl) rfl (by simp) st
theorem snap_h {xs : List Int} {h : Nat} {st : Sto} (hs : cellAt st h = some (xs.map D.int)) : snap st (.hnd h) = some (.lst (xs.map D.int)) := by
  have : st[h]? = some (.lst (xs.map D.int)) := by
    unfold cellAt at hs
    cases q : st[h]? with
    | none => rw [q] at hs; cases hs
    | some c =>
      rw [q] at hs
      cases c with
      | lst ys => cases hs; rfl
      | dead => cases hs
  show (match st[h]? with
    | some (.lst xs) => if D.noHs xs then some (D.lst xs) else none
    | _ => none) = _
  rw [this]
  show (if D.noHs (xs.map D.int) = true then some (D.lst (xs.map D.int)) else none) = _
  rw [noHs_ints]; rfl
theorem c_cutH {xs : List Int} {h : Nat} {st : Sto} (hl : xs.length ≤ 1000) (hs : cellAt st h = some (xs.map D.int)) : callD 1 f__law_po_cut st [.hnd h] = .ok (P (trim xs)) st := by
  refine cd_snap (u_cut hl) rfl ?_ (noL_P _) (fun z => by simp at z)
  show (match snap st (.hnd h), snaps st [] with
    | some x, some xs => some (x :: xs)
    | _, _ => none) = _
  rw [snap_h hs]; rfl
/-! ### sums, multiples, products -/
theorem flat_one (k : Nat) : (List.replicate k [D.int 0]).flatten = (List.replicate k (0 : Int)).map D.int := by
  induction k with
  | zero => rfl
  | succ k ih => rw [List.replicate_succ, List.flatten_cons, ih, List.replicate_succ]; rfl
theorem pad_ok {a : List Int} {n : Nat} (hn : a.length ≤ n) (h : n ≤ 1000) (st : Sto) : fCat st (.lst (a.map D.int)) (.lst ((List.replicate (n - a.length) [D.int 0]).flatten)) = some ((a ++ List.replicate (n - a.length) 0).map D.int) := by
  rw [flat_one]
  show (if (a.map D.int).length + ((List.replicate (n - a.length) (0 : Int)).map D.int).length ≤ lineN then some (a.map D.int ++ (List.replicate (n - a.length) (0 : Int)).map D.int) else none) = _
  rw [if_pos (by simp; unfold lineN; omega), ← List.map_append]
theorem rep_ok {k : Int} {n : Nat} (hk : k.toNat = n) (h : -1000 ≤ k ∧ k ≤ 1000) (st : Sto) : fRep st (.lst [.int 0]) (.int k) = some ((List.replicate n (0 : Int)).map D.int) := by
  show (if -(2 ^ 63) ≤ k ∧ k < 2 ^ 63 ∧ ([D.int 0] : List D).length * k.toNat ≤ lineN then some (List.replicate k.toNat [D.int 0]).flatten else none) = _
  rw [if_pos ⟨by omega, by omega, by simp; unfold lineN; omega⟩, hk, flat_one]
theorem zip_lin {a b : List Int} {n : Nat} (ha : a.length ≤ n) (hb : b.length ≤ n) (t : Int) (g : D → D) (p : Int) (hg : ∀ x y : Int, g (.tup [.int x, .int y]) = .int ((x + t * y) % p)) :
    (zipL ((a ++ List.replicate (n - a.length) 0).map D.int) ((b ++ List.replicate (n - b.length) 0).map D.int)).map g = ((lin a b t n).map (· % p)).map D.int := by
  unfold zipL lin
  apply List.ext_getElem?
  intro i
  rw [List.map_map, List.getElem?_map, List.zip, List.getElem?_zipWith, List.getElem?_map, List.getElem?_map, List.map_map, List.map_map, List.getElem?_map]
  have key : ∀ c : List Int, c.length ≤ n → i < n → (c ++ List.replicate (n - c.length) 0)[i]? = some (c.getD i 0) := by
    intro c hc hi
    by_cases h : i < c.length
    · rw [List.getElem?_append_left h, List.getElem?_eq_getElem h, getD_lt h]
    · rw [List.getElem?_append_right (by omega), List.getElem?_replicate, if_pos (by omega), getD_ge (by omega)]
  by_cases hi : i < n
  · rw [key a ha hi, key b hb hi, List.getElem?_range hi]
    simp [hg]
  · have z : ∀ c : List Int, c.length ≤ n → (c ++ List.replicate (n - c.length) 0)[i]? = none := fun c hc => List.getElem?_eq_none (by rw [List.length_append, List.length_replicate]; omega)
    have zr : (List.range n)[i]? = none := List.getElem?_eq_none (by rw [List.length_range]; omega)
    rw [z a ha, z b hb, zr]
    rfl
theorem zp_at {xs ys : List Int} {i : Nat} {x : D} (h : (zipL (xs.map D.int) (ys.map D.int))[i]? = some x) : ∃ u v : Int, x = .tup [.int u, .int v] ∧ v ∈ ys := by
  unfold zipL at h
  rw [List.getElem?_map, List.zip, List.getElem?_zipWith, List.getElem?_map, List.getElem?_map] at h
  cases hx : xs[i]? with
  | none => rw [hx] at h; cases h
  | some u =>
    cases hy : ys[i]? with
    | none => rw [hx, hy] at h; cases h
    | some v =>
      rw [hx, hy] at h
      cases h
      exact ⟨u, v, rfl, List.mem_of_getElem? hy⟩
theorem c_po_sum {p t : Int} {a b : List Int} (hp : isP p) (hb : Lo p b) (ha1 : a.length ≤ 500) (hb1 : b.length ≤ 500) (st : Sto) : callD 4 f__law_po_sum st [.int p, P a, P b, .int t] = .ok (P (plusM p a b t)) st := by
  refine cd_ok (fn_ret ?_ (noH_P _)) rfl (by simp) st
  show retD (sSeq _ (sSeq _ _) [some (.int p), some (P a), some (P b), some (.int t), none, none, none, none, none] []) = _
  obtain ⟨n, hn⟩ : ∃ n, n = max a.length b.length := ⟨_, rfl⟩
  have hm : max2D [] [.int (a.length : Int), .int (b.length : Int)] = some (.int (n : Int)) := by
    show some (D.int (if (b.length : Int) > a.length then b.length else a.length)) = _
    congr 2
    split <;> omega
  have r1 := rep_ok (k := (n : Int) - a.length) (n := n - a.length) (by omega) (by omega) []
  have r2 := rep_ok (k := (n : Int) - b.length) (n := n - b.length) (by omega) (by omega) []
  have d1 := pad_ok (a := a) (n := n) (by omega) (by omega) []
  have d2 := pad_ok (a := b) (n := n) (by omega) (by omega) []
  rw [flat_one] at d1 d2
  have q : q__law_po_sum_1 [some (.int p), some (P a), some (P b), some (.int t), some (.int n), some (.lst ((a ++ List.replicate (n - a.length) 0).map D.int)), some (.lst ((b ++ List.replicate (n - b.length) 0).map D.int)), none, none] [] = .ok (((lin a b t n).map (· % p)).map D.int) [] := by
    refine (lc_map (fg := gTupD (gNameD 7 :: gNameD 8 :: [])) (fe := e__law_po_sum_1) (vs := [7, 8]) (wk_zip (a := .lst ((a ++ List.replicate (n - a.length) 0).map D.int)) (b := .lst ((b ++ List.replicate (n - b.length) 0).map D.int)) (fs := aCons (eVar 5) (aCons (eVar 6) aNil)) (sd := [some (.int p), some (P a), some (P b), some (.int t), some (.int n), some (.lst ((a ++ List.replicate (n - a.length) 0).map D.int)), some (.lst ((b ++ List.replicate (n - b.length) 0).map D.int)), none, none]) (st := []) (st' := []) rfl rfl (sq_L _) (sq_L _)) (by simp; unfold lineN; omega) (fun d => match d with
      | .tup [.int x, .int y] => .int ((x + t * y) % p)
      | d => d) fun i x hx => ?_).trans ?_
    · obtain ⟨u, v, rfl, hv⟩ := zp_at hx
      have hv2 : 0 ≤ v ∧ v < p := by
        rcases List.mem_append.mp hv with h | h
        · exact hb v h
        · have := List.eq_of_mem_replicate h
          have := hp.pos
          omega
      refine ⟨[some (.int p), some (P a), some (P b), some (.int t), some (.int n), some (.lst ((a ++ List.replicate (n - a.length) 0).map D.int)), some (.lst ((b ++ List.replicate (n - b.length) 0).map D.int)), some (.int u), some (.int v)], by simp [wipeD], ?_⟩
      show eOp _ _ _ _ _ = _
      simp only [ev_op, ev_cb, ev_cons, ev_v0, ev_vs, ev_nil, rb_ok, o_mul (st := []) (i := t) (.inr (sm hp hv2)), ro_some, o_add, i_int, o_ints, o_mod hp.pos]
    · rw [zip_lin (by omega) (by omega) t _ p fun x y => rfl]
  have e2 : sPar2 5 6 (aCons (eFz (fOp fCat (eFz (fCB listD (aCons (eVar 1) aNil))) (eFz (fOp fRep (eFz (fLst (aCons (eC (.int 0)) aNil))) (eOp (ints2 fun i j => some (.int (i - j))) (eVar 4) (eCB lenD (aCons (eVar 1) aNil))))))) (aCons (eFz (fOp fCat (eFz (fCB listD (aCons (eVar 2) aNil))) (eFz (fOp fRep (eFz (fLst (aCons (eC (.int 0)) aNil))) (eOp (ints2 fun i j => some (.int (i - j))) (eVar 4) (eCB lenD (aCons (eVar 2) aNil))))))) aNil)) [some (.int p), some (P a), some (P b), some (.int t), some (.int n), none, none, none, none] [] = .go .nx [some (.int p), some (P a), some (P b), some (.int t), some (.int n), some (.lst ((a ++ List.replicate (n - a.length) 0).map D.int)), some (.lst ((b ++ List.replicate (n - b.length) 0).map D.int)), none, none] [] := by
    rw [sv_par2 (x := .lst ((a ++ List.replicate (n - a.length) 0).map D.int)) (y := .lst ((b ++ List.replicate (n - b.length) 0).map D.int)) (st1 := [])]
    · rfl
    · have hl0 : ([D.int 0] : List D).length ≤ lineN := by simp [lineN]
      simp only [ev_cons, ev_fz, ev_fop, ev_fcb, ev_v0, ev_vs, ev_nil, rb_ok, l_P, ro_some, ev_lst, ev_c, if_pos hl0, ev_op, ev_cb, l_lenP, o_ints, r1, r2, d1, d2]
  simp only [sv_seq, sv_set, ev_cb, ev_cons, ev_v0, ev_vs, ev_nil, rb_ok, l_lenP, ro_some, hm, rs_ok, sk_nx, List.set_cons_succ, List.set_cons_zero] at e2 ⊢
  rw [e2]
  simp only [sk_nx, sv_ret, ev_cal, ev_cons, ev_fz, q, rb_ok, ev_nil, List.append_nil]
  rw [c_cut (by simp [lin]; omega)]
  rw [hn]
  rfl
theorem c_po_times {p c : Int} {a : List Int} (hp : isP p) (ha : Lo p a) (ha1 : a.length ≤ 500) (st : Sto) : callD 3 f__law_po_times st [.int p, P a, .int c] = .ok (P (scaM p a c)) st := by
  refine cd_ok (fn_ret ?_ (noH_P _)) rfl (by simp) st
  show retD (sRet _ [some (.int p), some (P a), some (.int c), none] []) = _
  have q : q__law_po_times_1 [some (.int p), some (P a), some (.int c), none] [] = .ok (((a.map (c * ·)).map (· % p)).map D.int) [] := by
    refine (lc_map (fg := gNameD 3) (fe := e__law_po_times_1) (vs := [3]) (wk_seq (f := eVar 1) (sd := [some (.int p), some (P a), some (.int c), none]) (st := []) (st' := []) rfl (sq_P a)) (by simp; unfold lineN; omega) (fun d => .int (c * dI d % p)) fun i x hx => ?_).trans ?_
    · obtain ⟨hi, rfl⟩ := mi_at hx
      refine ⟨[some (.int p), some (P a), some (.int c), some (.int a[i])], by simp [wipeD], ?_⟩
      show eOp _ _ _ _ _ = _
      simp [o_mul (st := []) (.inr (sm hp (ha.at hi))), dI, o_mod hp.pos]
    · rw [List.map_map, List.map_map, List.map_map]; rfl
  simp only [sv_ret, ev_cal, ev_cons, ev_nil, rb_ok, List.append_nil, ev_fz, q]
  rw [c_cut (by simpa using by omega)]
  rfl
theorem w_prod1 {p : Int} {A : D} {b arr : List Int} {k : Nat} {c : Int} (hc : small64 c = true) (hl : k + b.length ≤ arr.length) (hz : arr.length ≤ 1000) (o6 o7 : Option D) : ∃ sd2 st2, w__law_po_product_1 [some (.int p), some A, some (P b), some (.hnd 0), some (.int k), some (.int c), o6, o7, none] [.lst (arr.map D.int)] = .go .nx sd2 st2 ∧
    ∃ o6 o7, sd2 = [some (.int p), some A, some (P b), some (.hnd 0), some (.int k), some (.int c), o6, o7, none] ∧ st2 = [.lst ((addRow arr k c b).map D.int)] := by
  obtain ⟨sd2, st2, e, X, o6', o7', h1, h2, h3, h4⟩ := for_run (fg := gTupD (gNameD 6 :: gNameD 7 :: [])) (b := y__law_po_product_1) (wk_enu (f := eVar 2) (sd := [some (.int p), some A, some (P b), some (.hnd 0), some (.int k), some (.int c), o6, o7, none]) (st := [.lst (arr.map D.int)]) (st' := [.lst (arr.map D.int)]) rfl (sq_P b))
    (fun i sd st => ∃ (X : List Int) (o6 o7 : Option D), sd = [some (.int p), some A, some (P b), some (.hnd 0), some (.int k), some (.int c), o6, o7, none] ∧ st = [.lst (X.map D.int)] ∧ X.length = arr.length ∧ addRow X (k + i) c (b.drop i) = addRow arr k c b)
    ⟨arr, o6, o7, rfl, rfl, rfl, rfl⟩ (by
      rintro i x _ _ hx ⟨X, o6, o7, rfl, rfl, hX, hr⟩
      obtain ⟨hi, rfl⟩ := en_at hx
      have hk : k + i < X.length := by omega
      refine ⟨[some (.int p), some A, some (P b), some (.hnd 0), some (.int k), some (.int c), some (.int i), some (.int b[i]), none], [.lst (X.map D.int)], _, _, by simp, sv_put (st1 := [.lst (X.map D.int)]) (st2 := [.lst (X.map D.int)]) (st3 := [.lst (X.map D.int)]) (h := 0) (k := ((k + i : Nat) : Int)) (j := k + i) (y := .int (X.getD (k + i) 0 + c * b[i])) (xs := X.map D.int) ?_ rfl ?_ rfl (ixN_nat rfl (by simpa using hk)), X.set (k + i) (X.getD (k + i) 0 + c * b[i]), some (.int i), some (.int b[i]), rfl, ?_, by simpa using hX, ?_⟩
      · have ha : L2.atI (X.map D.int) ((k : Int) + (i : Int)) = some (.int (X.getD (k + i) 0)) := by
          rw [atI_map, atI_lt hk (by omega), getD_lt hk]; rfl
        simp [ha, o_mul (st := [.lst (X.map D.int)]) (.inl hc)]
      · simp
      · simp [List.map_set]
      · rw [← hr, List.drop_eq_getElem_cons hi]
        rfl)
  refine ⟨sd2, st2, e, o6', o7', h1, ?_⟩
  have hl : (enuL (b.map D.int)).length = b.length := by simp [enuL]
  rw [hl, List.drop_eq_nil_of_le (Nat.le_refl _)] at h4
  rw [h2, ← h4]
  rfl
theorem w_prod2 {p : Int} {a b arr : List Int} (hp : isP p) (ha : Lo p a) (hl : a.length + b.length ≤ arr.length + 1) (hz : arr.length ≤ 1000) : ∃ sd2 st2, w__law_po_product_2 [some (.int p), some (P a), some (P b), some (.hnd 0), none, none, none, none, none] [.lst (arr.map D.int)] = .go .nx sd2 st2 ∧
    ∃ o4 o5 o6 o7, sd2 = [some (.int p), some (P a), some (P b), some (.hnd 0), o4, o5, o6, o7, none] ∧ st2 = [.lst ((mulRows arr 0 a b).map D.int)] := by
  obtain ⟨sd2, st2, e, X, o4', o5', o6', o7', h1, h2, h3, h4⟩ := for_run (fg := gTupD (gNameD 4 :: gNameD 5 :: [])) (b := y__law_po_product_2) (wk_enu (f := eVar 1) (sd := [some (.int p), some (P a), some (P b), some (.hnd 0), none, none, none, none, none]) (st := [.lst (arr.map D.int)]) (st' := [.lst (arr.map D.int)]) rfl (sq_P a))
    (fun i sd st => ∃ (X : List Int) (o4 o5 o6 o7 : Option D), sd = [some (.int p), some (P a), some (P b), some (.hnd 0), o4, o5, o6, o7, none] ∧ st = [.lst (X.map D.int)] ∧ X.length = arr.length ∧ mulRows X i (a.drop i) b = mulRows arr 0 a b)
    ⟨arr, none, none, none, none, rfl, rfl, rfl, rfl⟩ (by
      rintro i x _ _ hx ⟨X, o4, o5, o6, o7, rfl, rfl, hX, hr⟩
      obtain ⟨hi, rfl⟩ := en_at hx
      have step : mulRows (if a[i] = 0 then X else addRow X i a[i] b) (i + 1) (a.drop (i + 1)) b = mulRows arr 0 a b := by
        rw [← hr, List.drop_eq_getElem_cons hi]; rfl
      by_cases h0 : a[i] = 0
      · refine ⟨[some (.int p), some (P a), some (P b), some (.hnd 0), some (.int i), some (.int a[i]), o6, o7, none], [.lst (X.map D.int)], _, _, by simp, (by show sIf _ _ _ _ _ = _; simp [h0]; rfl), X, some (.int i), some (.int a[i]), o6, o7, (by rw [h0]), rfl, hX, by rw [if_pos h0] at step; exact step⟩
      · obtain ⟨sd3, st3, e3, p6, p7, rfl, rfl⟩ := w_prod1 (p := p) (A := P a) (b := b) (arr := X) (k := i) (c := a[i]) (sm hp (ha.at hi)) (by omega) (by omega) o6 o7
        refine ⟨[some (.int p), some (P a), some (P b), some (.hnd 0), some (.int i), some (.int a[i]), o6, o7, none], [.lst (X.map D.int)], _, _, by simp, (by show sIf _ _ _ _ _ = _; simp [h0]; exact e3), addRow X i a[i] b, some (.int i), some (.int a[i]), p6, p7, rfl, rfl, by rw [addRow_len]; exact hX, by rw [if_neg h0] at step; exact step⟩)
  refine ⟨sd2, st2, e, o4', o5', o6', o7', h1, ?_⟩
  have hl : (enuL (a.map D.int)).length = a.length := by simp [enuL]
  rw [hl, List.drop_eq_nil_of_le (Nat.le_refl _)] at h4
  rw [h2, ← h4]
  rfl
theorem c_po_product {p : Int} {a b : List Int} (hp : isP p) (ha : Lo p a) (ha1 : a.length ≤ 400) (hb1 : b.length ≤ 400) (st : Sto) : callD 3 f__law_po_product st [.int p, P a, P b] = .ok (P (prodM p a b)) st := by
  refine cd_ok (fn_ret ?_ (noH_P _)) rfl (by simp) st
  show retD (sSeq _ (sSeq _ _) [some (.int p), some (P a), some (P b), none, none, none, none, none, none] []) = _
  have r1 := rep_ok (k := (a.length : Int) + b.length) (n := a.length + b.length) (by omega) (by omega) []
  have hl0 : ([D.int 0] : List D).length ≤ lineN := by simp [lineN]
  obtain ⟨sd2, st2, e, o4, o5, o6, o7, rfl, rfl⟩ := w_prod2 (p := p) (a := a) (b := b) (arr := List.replicate (a.length + b.length) 0) hp ha (by rw [List.length_replicate]; omega) (by rw [List.length_replicate]; omega)
  have q : q__law_po_product_1 [some (.int p), some (P a), some (P b), some (.hnd 0), o4, o5, o6, o7, none] [.lst ((mulRows (List.replicate (a.length + b.length) 0) 0 a b).map D.int)] = .ok (((mulRows (List.replicate (a.length + b.length) 0) 0 a b).map (· % p)).map D.int) [.lst ((mulRows (List.replicate (a.length + b.length) 0) 0 a b).map D.int)] := by
    generalize hX : mulRows (List.replicate (a.length + b.length) 0) 0 a b = X
    have hl : X.length = a.length + b.length := by rw [← hX, mulRows_len, List.length_replicate]
    refine (lc_mapH (f := eVar 3) (fg := gNameD 8) (fe := e__law_po_product_1) (vs := [8]) (h := 0) (L := X.map D.int) rfl rfl (by simp; unfold lineN; omega) (fun d => .int (dI d % p)) fun i x hx => ?_).trans ?_
    · obtain ⟨hi, rfl⟩ := mi_at hx
      refine ⟨[some (.int p), some (P a), some (P b), some (.hnd 0), o4, o5, o6, o7, some (.int X[i])], by simp [wipeD], ?_⟩
      show eOp _ _ _ _ _ = _
      simp [dI, o_mod hp.pos]
    · rw [List.map_map, List.map_map]; rfl
  simp only [sv_seq, sv_set, ev_hnd, ev_fop, ev_fz, ev_lst, ev_cons, ev_c, ev_nil, rb_ok, if_pos hl0, ev_op, ev_cb, ev_v0, ev_vs, l_lenP, ro_some, o_add, r1, rs_ok, sk_nx, List.length_nil, List.nil_append, List.set_cons_succ, List.set_cons_zero, e, sv_ret, ev_cal, q, List.append_nil]
  rw [c_cut (by rw [List.length_map, mulRows_len, List.length_replicate]; omega)]
  rfl
end Gn
namespace Gn
open PySem PySem.Spec PyProof.Rows L2 DS Pm

theorem u_inverse {p x : Int} (hp : isP p) (h0 : x ≠ 0) (h1 : 0 ≤ x ∧ x < p) : f__law_po_inverse [] [.int p, .int x] = .ok (.int (invM p x)) [] := by
  rcases hp with rfl | rfl | rfl | rfl
  · have : x = 1 := by omega
    subst this; kernel_rfl
  · have : x = 1 ∨ x = 2 := by omega
    rcases this with rfl | rfl <;> kernel_rfl
  · have : x = 1 ∨ x = 2 ∨ x = 3 ∨ x = 4 := by omega
    rcases this with rfl | rfl | rfl | rfl <;> kernel_rfl
  · have : x = 1 ∨ x = 2 ∨ x = 3 ∨ x = 4 ∨ x = 5 ∨ x = 6 := by omega
    rcases this with rfl | rfl | rfl | rfl | rfl | rfl <;> kernel_rfl
theorem c_inverse {p x : Int} (hp : isP p) (h0 : x ≠ 0) (h1 : 0 ≤ x ∧ x < p) (st : Sto) : callD 2 f__law_po_inverse st [.int p, .int x] = .ok (.int (invM p x)) st := cd_ok (u_inverse hp h0 h1) rfl rfl st
theorem at_end {b : List Int} (hb : b ≠ []) : L2.atI b ((b.length : Int) - 1) = some (lastM b) := by
  have hl : 0 < b.length := List.length_pos_iff.mpr hb
  rw [atI_lt (show b.length - 1 < b.length by omega) (by omega)]
  unfold lastM
  rw [getD_lt (by omega)]
/-! ### division -/
theorem w_pdiv1 {p : Int} {A : D} {F : List D} {b left : List Int} {k : Nat} {c : Int} {o4 o5 o7 : Option D} (hp : isP p) (hb : Lo p b) (hl : k + b.length ≤ left.length) (o10 o11 : Option D) :
    ∃ sd2 st2, w__law_po_division_1 [some (.int p), some A, some (P b), some (.hnd 1), o4, o5, some (.hnd 0), o7, some (.int k), some (.int c), o10, o11] [.lst (left.map D.int), .lst F] = .go .nx sd2 st2 ∧
    ∃ o10 o11, sd2 = [some (.int p), some A, some (P b), some (.hnd 1), o4, o5, some (.hnd 0), o7, some (.int k), some (.int c), o10, o11] ∧ st2 = [.lst ((subRow p left k c b).map D.int), .lst F] := by
  obtain ⟨sd2, st2, e, X, o9', o10', h1, h2, h3, h4⟩ := for_run (fg := gTupD (gNameD 10 :: gNameD 11 :: [])) (b := y__law_po_division_1) (wk_enu (f := eVar 2) (sd := [some (.int p), some A, some (P b), some (.hnd 1), o4, o5, some (.hnd 0), o7, some (.int k), some (.int c), o10, o11]) (st := [.lst (left.map D.int), .lst F]) (st' := [.lst (left.map D.int), .lst F]) rfl (sq_P b))
    (fun i sd st => ∃ (X : List Int) (o10 o11 : Option D), sd = [some (.int p), some A, some (P b), some (.hnd 1), o4, o5, some (.hnd 0), o7, some (.int k), some (.int c), o10, o11] ∧ st = [.lst (X.map D.int), .lst F] ∧ X.length = left.length ∧ subRow p X (k + i) c (b.drop i) = subRow p left k c b)
    ⟨left, o10, o11, rfl, rfl, rfl, rfl⟩ (by
      rintro i x _ _ hx ⟨X, o10, o11, rfl, rfl, hX, hr⟩
      obtain ⟨hi, rfl⟩ := en_at hx
      have hk : k + i < X.length := by omega
      refine ⟨[some (.int p), some A, some (P b), some (.hnd 1), o4, o5, some (.hnd 0), o7, some (.int k), some (.int c), some (.int i), some (.int b[i])], [.lst (X.map D.int), .lst F], _, _, by simp, sv_put (st1 := [.lst (X.map D.int), .lst F]) (st2 := [.lst (X.map D.int), .lst F]) (st3 := [.lst (X.map D.int), .lst F]) (h := 0) (k := ((k + i : Nat) : Int)) (j := k + i) (y := .int ((X.getD (k + i) 0 - c * b[i]) % p)) (xs := X.map D.int) ?_ rfl ?_ rfl (ixN_nat rfl (by simpa using hk)), X.set (k + i) ((X.getD (k + i) 0 - c * b[i]) % p), some (.int i), some (.int b[i]), rfl, ?_, by simpa using hX, ?_⟩
      · have ha : L2.atI (X.map D.int) ((k : Int) + (i : Int)) = some (.int (X.getD (k + i) 0)) := by
          rw [atI_map, atI_lt hk (by omega), getD_lt hk]; rfl
        simp [ha, o_mul (st := [.lst (X.map D.int), .lst F]) (i := c) (.inr (sm hp (hb.at hi))), o_mod hp.pos]
      · simp
      · simp [List.map_set]
      · rw [← hr, List.drop_eq_getElem_cons hi]
        rfl)
  refine ⟨sd2, st2, e, o9', o10', h1, ?_⟩
  have hl : (enuL (b.map D.int)).length = b.length := by simp [enuL]
  rw [hl, List.drop_eq_nil_of_le (Nat.le_refl _)] at h4
  rw [h2, ← h4]
  rfl
theorem w_pdiv2 {p inv : Int} {a b : List Int} {n : Nat} (hp : isP p) (hb : Lo p b) (hb0 : b ≠ []) (hinv : small64 inv = true) (hn : n = a.length + 1 - b.length) (ha : a.length ≤ 900) (hb1 : b.length ≤ 900) :
    ∃ sd2 st2, w__law_po_division_2 [some (.int p), some (P a), some (P b), some (.hnd 1), some (.int inv), none, some (.hnd 0), some (.int b.length), none, none, none, none] [.lst (a.map D.int), .lst ((List.replicate n (0 : Int)).map D.int)] = .go .nx sd2 st2 ∧
    ∃ o5 o8 o9 o10 o11, sd2 = [some (.int p), some (P a), some (P b), some (.hnd 1), some (.int inv), o5, some (.hnd 0), some (.int b.length), o8, o9, o10, o11] ∧ st2 = [.lst ((divRows p b inv n (List.replicate n 0) a).2.map D.int), .lst ((divRows p b inv n (List.replicate n 0) a).1.map D.int)] := by
  have hbl : 0 < b.length := List.length_pos_iff.mpr hb0
  have hw := wk_rng (fs := aCons (eCB lenD (aCons (eVar 3) aNil)) aNil) (sd := [some (.int p), some (P a), some (P b), some (.hnd 1), some (.int inv), none, some (.hnd 0), some (.int b.length), none, none, none, none])
    (st := [.lst (a.map D.int), .lst ((List.replicate n (0 : Int)).map D.int)]) (st' := [.lst (a.map D.int), .lst ((List.replicate n (0 : Int)).map D.int)]) (k := 1) (ds := [.int n]) (by simp) rfl (rng1 (n := n) (by omega))
  obtain ⟨sd2, st2, e, X, Y, o5', o8', o9', o10', o11', h1, h2, h3, h4, h5⟩ := for_run (fg := gNameD 5) (b := y__law_po_division_2) hw
    (fun i sd st => ∃ (X Y : List Int) (o5 o8 o9 o10 o11 : Option D), sd = [some (.int p), some (P a), some (P b), some (.hnd 1), some (.int inv), o5, some (.hnd 0), some (.int b.length), o8, o9, o10, o11] ∧ st = [.lst (X.map D.int), .lst (Y.map D.int)] ∧ X.length = a.length ∧ Y.length = n ∧ divRows p b inv (n - i) Y X = divRows p b inv n (List.replicate n 0) a)
    ⟨a, List.replicate n 0, none, none, none, none, none, rfl, rfl, rfl, by simp, rfl⟩ (by
      rintro i x _ _ hx ⟨X, Y, o5, o8, o9, o10, o11, rfl, rfl, hX, hY, hr⟩
      obtain ⟨hi, rfl⟩ := rg_at hx
      obtain ⟨k, hk⟩ : ∃ k : Nat, n - i = k + 1 := ⟨n - i - 1, by omega⟩
      have hki : ((Y.map D.int).length : Int) - 1 - (0 + (i : Int) * 1) = (k : Int) := by rw [List.length_map, hY]; omega
      rw [hk, divRows_step] at hr
      have hkX : k + b.length - 1 < X.length := by omega
      generalize hc : X.getD (k + b.length - 1) 0 * inv % p = c at hr
      have e7 : sSet 8 (eOp (ints2 fun i j => some (.int (i - j))) (eOp (ints2 fun i j => some (.int (i - j))) (eCB lenD (aCons (eVar 3) aNil)) (eC (.int 1))) (eVar 5)) [some (.int p), some (P a), some (P b), some (.hnd 1), some (.int inv), some (.int (0 + (i : Int) * 1)), some (.hnd 0), some (.int b.length), o8, o9, o10, o11] [.lst (X.map D.int), .lst (Y.map D.int)] = .go .nx [some (.int p), some (P a), some (P b), some (.hnd 1), some (.int inv), some (.int (0 + (i : Int) * 1)), some (.hnd 0), some (.int b.length), some (.int k), o9, o10, o11] [.lst (X.map D.int), .lst (Y.map D.int)] := by
        simp only [sv_set, ev_op, ev_cb, ev_cons, ev_v0, ev_vs, ev_nil, ev_c, rb_ok, ln_hnd, ca_one, Option.map_some, ro_some, o_ints, hki, rs_ok, List.set_cons_succ, List.set_cons_zero]
      have e8 : sSet 9 (eOp (ints2 modI) (eCB intOf (aCons (eOp mulD (eOp ixD (eVar 6) (eOp (ints2 fun i j => some (.int (i - j))) (eOp addD (eVar 8) (eVar 7)) (eC (.int 1)))) (eVar 4)) aNil)) (eVar 0)) [some (.int p), some (P a), some (P b), some (.hnd 1), some (.int inv), some (.int (0 + (i : Int) * 1)), some (.hnd 0), some (.int b.length), some (.int k), o9, o10, o11] [.lst (X.map D.int), .lst (Y.map D.int)] = .go .nx [some (.int p), some (P a), some (P b), some (.hnd 1), some (.int inv), some (.int (0 + (i : Int) * 1)), some (.hnd 0), some (.int b.length), some (.int k), some (.int c), o10, o11] [.lst (X.map D.int), .lst (Y.map D.int)] := by
        have ha : L2.atI (X.map D.int) ((k : Int) + (b.length : Int) - 1) = some (.int (X.getD (k + b.length - 1) 0)) := by
          rw [atI_map, atI_lt hkX (by omega), getD_lt hkX]; rfl
        simp only [sv_set, ev_op, ev_cb, ev_cons, ev_v0, ev_vs, ev_nil, ev_c, rb_ok, o_add, ro_some, o_ints, ix_hnd, ca_zero, Option.bind_some, ha, o_mul (st := [.lst (X.map D.int), .lst (Y.map D.int)]) (i := X.getD (k + b.length - 1) 0) (.inr hinv), i_int, o_mod hp.pos, hc, rs_ok, List.set_cons_succ, List.set_cons_zero]
      have put : sPut (eVar 9) (eVar 3) (eVar 8) [some (.int p), some (P a), some (P b), some (.hnd 1), some (.int inv), some (.int (0 + (i : Int) * 1)), some (.hnd 0), some (.int b.length), some (.int k), some (.int c), o10, o11] [.lst (X.map D.int), .lst (Y.map D.int)] = .go .nx [some (.int p), some (P a), some (P b), some (.hnd 1), some (.int inv), some (.int (0 + (i : Int) * 1)), some (.hnd 0), some (.int b.length), some (.int k), some (.int c), o10, o11] [.lst (X.map D.int), .lst ((Y.set k c).map D.int)] := by
        rw [sv_put (st1 := [.lst (X.map D.int), .lst (Y.map D.int)]) (st2 := [.lst (X.map D.int), .lst (Y.map D.int)]) (st3 := [.lst (X.map D.int), .lst (Y.map D.int)]) (h := 1) (k := (k : Int)) (j := k) (y := .int c) (xs := Y.map D.int) rfl rfl rfl rfl (ixN_nat rfl (by simp; omega))]
        simp [List.map_set]
      by_cases h0 : c = 0
      · refine ⟨[some (.int p), some (P a), some (P b), some (.hnd 1), some (.int inv), some (.int (0 + (i : Int) * 1)), some (.hnd 0), some (.int b.length), o8, o9, o10, o11], [.lst (X.map D.int), .lst (Y.map D.int)], [some (.int p), some (P a), some (P b), some (.hnd 1), some (.int inv), some (.int (0 + (i : Int) * 1)), some (.hnd 0), some (.int b.length), some (.int k), some (.int c), o10, o11], [.lst (X.map D.int), .lst ((Y.set k c).map D.int)], by simp only [gv_name, List.set_cons_succ, List.set_cons_zero], ?_, X, Y.set k c, some (.int (0 + (i : Int) * 1)), some (.int k), some (.int c), o10, o11, rfl, rfl, hX, by simpa using hY, ?_⟩
        · show sSeq _ (sSeq _ (sSeq _ (sIf _ _ _))) _ _ = _
          rw [sv_seq, e7, sk_nx, sv_seq, e8, sk_nx, sv_seq, put, sk_nx]
          simp only [sv_if, ev_test, ev_op, ev_v0, ev_vs, ev_c, rb_ok, o_neI, ro_some, isB_bl, h0, decide_true, Bool.not_true, rs_ok, if_neg Bool.false_ne_true, sv_next]
        · rw [if_pos h0] at hr
          rw [show n - (i + 1) = k by omega]
          exact hr
      · obtain ⟨sd3, st3, e3, p10, p11, rfl, rfl⟩ := w_pdiv1 (p := p) (A := P a) (F := (Y.set k c).map D.int) (b := b) (left := X) (k := k) (c := c) (o4 := some (.int inv)) (o5 := some (.int (0 + (i : Int) * 1))) (o7 := some (.int b.length)) hp hb (by omega) o10 o11
        refine ⟨[some (.int p), some (P a), some (P b), some (.hnd 1), some (.int inv), some (.int (0 + (i : Int) * 1)), some (.hnd 0), some (.int b.length), o8, o9, o10, o11], [.lst (X.map D.int), .lst (Y.map D.int)], _, _, by simp only [gv_name, List.set_cons_succ, List.set_cons_zero], ?_, subRow p X k c b, Y.set k c, some (.int (0 + (i : Int) * 1)), some (.int k), some (.int c), p10, p11, rfl, rfl, by rw [subRow_len]; exact hX, by simpa using hY, ?_⟩
        · show sSeq _ (sSeq _ (sSeq _ (sIf _ _ _))) _ _ = _
          simp only [sv_seq, e7, e8, sk_nx, put, sv_if, ev_test, ev_op, ev_v0, ev_vs, ev_c, rb_ok, o_neI, ro_some, isB_bl, h0, decide_false, Bool.not_false, rs_ok, if_true]
          exact e3
        · rw [if_neg h0] at hr
          rw [show n - (i + 1) = k by omega]
          exact hr)
  refine ⟨sd2, st2, e, o5', o8', o9', o10', o11', h1, ?_⟩
  have hl : (rngL 0 1 n).length = n := by simp [rngL]
  rw [hl, Nat.sub_self] at h5
  rw [h2, ← h5]
  rfl
theorem divM_eq (p : Int) (a b : List Int) : divM p a b = (trim ((divRows p b (invM p (lastM b)) (a.length + 1 - b.length) (List.replicate (a.length + 1 - b.length) 0) a).1.map (· % p)), trim ((divRows p b (invM p (lastM b)) (a.length + 1 - b.length) (List.replicate (a.length + 1 - b.length) 0) a).2.map (· % p))) := rfl
theorem divRows_lo {p : Int} (hp : 0 < p) (b : List Int) (inv : Int) : ∀ (n : Nat) (found left : List Int), Lo p found → Lo p left → Lo p (divRows p b inv n found left).1 ∧ Lo p (divRows p b inv n found left).2
  | 0, _, _, h1, h2 => ⟨h1, h2⟩
  | n + 1, found, left, h1, h2 => by
    have md : ∀ x : Int, 0 ≤ x % p ∧ x % p < p := fun x => ⟨Int.emod_nonneg _ (by omega), Int.emod_lt_of_pos _ hp⟩
    rw [divRows_step]
    refine divRows_lo hp b inv n _ _ (fun x hx => ?_) ?_
    · rcases List.mem_or_eq_of_mem_set hx with h | h
      · exact h1 x h
      · rw [h]; exact md _
    · split
      · exact h2
      · have sub : ∀ (b arr : List Int) (k : Nat) (c : Int), Lo p arr → Lo p (subRow p arr k c b) := by
          intro b
          induction b with
          | nil => exact fun arr k c h => h
          | cons y ys ih =>
            intro arr k c h
            refine ih _ _ _ fun x hx => ?_
            rcases List.mem_or_eq_of_mem_set hx with h' | h'
            · exact h x h'
            · rw [h']; exact md _
        exact sub _ _ _ _ h2
theorem c_po_division {p : Int} {a b : List Int} (hp : isP p) (ha : Lo p a) (hb : Nrm p b) (hb0 : b ≠ []) (ha1 : a.length ≤ 900) (hb1 : b.length ≤ 900) (st : Sto) : callD 3 f__law_po_division st [.int p, P a, P b] = .ok (.tup [P (divM p a b).1, P (divM p a b).2]) st := by
  refine cd_ok (fn_ret ?_ (by simp)) rfl (by simp) st
  show retD (sSeq _ (sSeq _ (sSeq _ (sSeq _ _))) [some (.int p), some (P a), some (P b), none, none, none, none, none, none, none, none, none] []) = _
  obtain ⟨hl0, hl1⟩ := last_ok hp.pos hb hb0
  have hbl : 0 < b.length := List.length_pos_iff.mpr hb0
  have iv := inv_ok hp hl0 hl1
  have e1 : sPar2 6 7 (aCons (eHnd (fCB listD (aCons (eVar 1) aNil))) (aCons (eCB lenD (aCons (eVar 2) aNil)) aNil)) [some (.int p), some (P a), some (P b), none, none, none, none, none, none, none, none, none] [] = .go .nx [some (.int p), some (P a), some (P b), none, none, none, some (.hnd 0), some (.int b.length), none, none, none, none] [.lst (a.map D.int)] := by
    rw [sv_par2 (x := .hnd 0) (y := .int b.length) (st1 := [.lst (a.map D.int)])]
    · rfl
    · simp only [ev_cons, ev_hnd, ev_fcb, ev_cb, ev_v0, ev_vs, ev_nil, rb_ok, l_P, ro_some, l_lenP, List.length_nil, List.nil_append]
  have hm : max2D [.lst (a.map D.int)] [.int 0, .int ((a.length : Int) - b.length + 1)] = some (.int ((a.length + 1 - b.length : Nat) : Int)) := by
    show some (D.int (if (a.length : Int) - b.length + 1 > 0 then (a.length : Int) - b.length + 1 else 0)) = _
    congr 2
    split <;> omega
  have r1 := rep_ok (k := ((a.length + 1 - b.length : Nat) : Int)) (n := a.length + 1 - b.length) (by omega) (by omega) [.lst (a.map D.int)]
  have hlz : (1 : Nat) ≤ lineN := by simp [lineN]
  have e2 : sSet 3 (eHnd (fOp fRep (eFz (fLst (aCons (eC (.int 0)) aNil))) (eCB max2D (aCons (eC (.int 0)) (aCons (eOp addD (eOp (ints2 fun i j => some (.int (i - j))) (eCB lenD (aCons (eVar 6) aNil)) (eVar 7)) (eC (.int 1))) aNil))))) [some (.int p), some (P a), some (P b), none, none, none, some (.hnd 0), some (.int b.length), none, none, none, none] [.lst (a.map D.int)] = .go .nx [some (.int p), some (P a), some (P b), some (.hnd 1), none, none, some (.hnd 0), some (.int b.length), none, none, none, none] [.lst (a.map D.int), .lst ((List.replicate (a.length + 1 - b.length) (0 : Int)).map D.int)] := by
    simp only [sv_set, ev_hnd, ev_fop, ev_fz, ev_lst, ev_cons, ev_c, ev_nil, rb_ok, if_pos hlz, ev_cb, ev_op, ev_v0, ev_vs, ln_hnd, ca_zero, Option.map_some, List.length_map, ro_some, o_ints, o_add, hm, r1, rs_ok, List.set_cons_succ, List.set_cons_zero, List.length_cons, List.length_nil, List.cons_append, List.nil_append, Nat.zero_add]
  have e3 : sSet 4 (eCal 2 f__law_po_inverse [] (aCons (eVar 0) (aCons (eOp ixD (eVar 2) (eOp (ints2 fun i j => some (.int (i - j))) (eVar 7) (eC (.int 1)))) aNil))) [some (.int p), some (P a), some (P b), some (.hnd 1), none, none, some (.hnd 0), some (.int b.length), none, none, none, none] [.lst (a.map D.int), .lst ((List.replicate (a.length + 1 - b.length) (0 : Int)).map D.int)] = .go .nx [some (.int p), some (P a), some (P b), some (.hnd 1), some (.int (invM p (lastM b))), none, some (.hnd 0), some (.int b.length), none, none, none, none] [.lst (a.map D.int), .lst ((List.replicate (a.length + 1 - b.length) (0 : Int)).map D.int)] := by
    simp only [sv_set, ev_cal, ev_cons, ev_op, ev_v0, ev_vs, ev_c, ev_nil, rb_ok, o_ints, ro_some, x_P, at_end hb0, Option.map_some, List.append_nil, c_inverse hp hl0 hl1, rs_ok, List.set_cons_succ, List.set_cons_zero]
  obtain ⟨sd2, st2, e, o5, o8, o9, o10, o11, rfl, rfl⟩ := w_pdiv2 (p := p) (inv := invM p (lastM b)) (a := a) (b := b) hp hb.lo hb0 (sm hp ⟨by omega, iv.2.2⟩) rfl ha1 hb1
  have lo := divRows_lo hp.pos b (invM p (lastM b)) (a.length + 1 - b.length) (List.replicate (a.length + 1 - b.length) 0) a (fun x hx => by have := List.eq_of_mem_replicate hx; have := hp.pos; omega) ha
  have len2 : ∀ (n : Nat) (found left : List Int), (divRows p b (invM p (lastM b)) n found left).2.length = left.length := by
    intro n
    induction n with
    | zero => intros; rfl
    | succ n ih =>
      intro found left
      rw [divRows_step, ih]
      split
      · rfl
      · exact subRow_len ..
  have t1 := c_cutH (h := 1) (xs := (divRows p b (invM p (lastM b)) (a.length + 1 - b.length) (List.replicate (a.length + 1 - b.length) 0) a).1) (st := [.lst ((divRows p b (invM p (lastM b)) (a.length + 1 - b.length) (List.replicate (a.length + 1 - b.length) 0) a).2.map D.int), .lst ((divRows p b (invM p (lastM b)) (a.length + 1 - b.length) (List.replicate (a.length + 1 - b.length) 0) a).1.map D.int)]) (by rw [divRows_len, List.length_replicate]; omega) rfl
  have t2 := c_cutH (h := 0) (xs := (divRows p b (invM p (lastM b)) (a.length + 1 - b.length) (List.replicate (a.length + 1 - b.length) 0) a).2) (st := [.lst ((divRows p b (invM p (lastM b)) (a.length + 1 - b.length) (List.replicate (a.length + 1 - b.length) 0) a).2.map D.int), .lst ((divRows p b (invM p (lastM b)) (a.length + 1 - b.length) (List.replicate (a.length + 1 - b.length) 0) a).1.map D.int)]) (by rw [len2]; omega) rfl
  have hle : ([P (divM p a b).1, P (divM p a b).2] : List D).length ≤ lineN := by simp [lineN]
  rw [sv_seq, e1, sk_nx, sv_seq, e2, sk_nx, sv_seq, e3, sk_nx, sv_seq, e, sk_nx]
  rw [divM_eq, map_mod_id lo.1, map_mod_id lo.2] at hle ⊢
  simp only [sv_ret, ev_tup, ev_cons, ev_cal, ev_v0, ev_vs, ev_nil, rb_ok, List.append_nil, t1, t2, if_pos hle, rs_ok, retD_ret]
theorem c_po_monic {p : Int} {a : List Int} (hp : isP p) (ha : Nrm p a) (ha1 : a.length ≤ 500) (st : Sto) : callD 2 f__law_po_monic st [.int p, P a] = .ok (P (monM p a)) st := by
  refine cd_ok (fn_ret ?_ (noH_P _)) rfl (by simp) st
  show retD (sRet _ [some (.int p), some (P a)] []) = _
  unfold monM
  by_cases h : a = []
  · simp [h]; rfl
  · obtain ⟨hl0, hl1⟩ := last_ok hp.pos ha h
    simp [h, at_end h, c_inverse hp hl0 hl1, c_po_times hp ha.lo ha1]
theorem c_po_common {p : Int} {a b : List Int} (hp : isP p) (ha : Nrm p a) (hb : Nrm p b) (ha1 : a.length ≤ 500) (hb1 : b.length ≤ 500) (st : Sto) : callD 3 f__law_po_common st [.int p, P a, P b] = .ok (P (monM p (gcdM p a b))) st := by
  refine cd_ok (fn_ret ?_ (noH_P _)) rfl (by simp) st
  show retD (sSeq w__law_po_common_1 _ [some (.int p), some (P a), some (P b), none] []) = _
  have hw := wk_rng (fs := aCons (eOp addD (eOp addD (eCB lenD (aCons (eVar 1) aNil)) (eCB lenD (aCons (eVar 2) aNil))) (eC (.int 2))) aNil) (sd := [some (.int p), some (P a), some (P b), none]) (st := []) (st' := []) (k := 1) (ds := [.int ((a.length + b.length + 2 : Nat) : Int)]) (by simp) rfl (rng1 (n := a.length + b.length + 2) (by omega))
  obtain ⟨sd2, e, o2, o3, h1, h2, h3⟩ := for_gen (fg := gNameD 3) (b := y__law_po_common_1) hw (fun r => ∃ sd, r = .go .nx sd [] ∧ ∃ (o2 o3 : Option D), sd = [some (.int p), some (P (gcdM p a b)), o2, o3] ∧ Nrm p (gcdM p a b) ∧ (gcdM p a b).length ≤ 500)
    (fun i sd st => ∃ (c d : List Int) (o3 : Option D), sd = [some (.int p), some (P c), some (P d), o3] ∧ st = [] ∧ Nrm p c ∧ Nrm p d ∧ c.length ≤ 500 ∧ d.length + i ≤ b.length ∧ comM p (d.length + 1) c d = gcdM p a b) ⟨a, b, none, rfl, rfl, ha, hb, ha1, Nat.le_refl _, rfl⟩ (by
      rintro i x _ _ hx ⟨c, d, o3, rfl, rfl, hc, hd, hc1, hd1, hr⟩
      obtain ⟨hi, rfl⟩ := rg_at hx
      refine ⟨[some (.int p), some (P c), some (P d), some (.int (0 + (i : Int) * 1))], [], by simp only [gv_name, List.set_cons_succ, List.set_cons_zero], ?_⟩
      by_cases h : d = []
      · have eb : y__law_po_common_1 [some (.int p), some (P c), some (P d), some (.int (0 + (i : Int) * 1))] [] = .go .brk [some (.int p), some (P c), some (P d), some (.int (0 + (i : Int) * 1))] [] := by
          show sSeq (sIf _ _ _) _ _ _ = _
          simp [h]
        rw [eb]
        have eg : gcdM p a b = c := by rw [← hr, h]; rfl
        rw [eg]
        exact ⟨_, rfl, _, _, rfl, hc, hc1⟩
      · have hl := divM_len (a := c) h (inv_last hp hd h)
        have hd0 : 0 < d.length := List.length_pos_iff.mpr h
        have cd := c_po_division (a := c) (b := d) hp hc.lo hd h (by omega) (by omega) []
        have ix : L2.atI [P (divM p c d).1, P (divM p c d).2] 1 = some (P (divM p c d).2) := rfl
        have eb : y__law_po_common_1 [some (.int p), some (P c), some (P d), some (.int (0 + (i : Int) * 1))] [] = .go .nx [some (.int p), some (P d), some (P (divM p c d).2), some (.int (0 + (i : Int) * 1))] [] := by
          show sSeq (sIf _ _ _) (sPar2 1 2 _) _ _ = _
          have t1 : sIf (eTest (eOp eqD (eVar 2) (eTup aNil))) sBrk sNext [some (.int p), some (P c), some (P d), some (.int (0 + (i : Int) * 1))] [] = .go .nx [some (.int p), some (P c), some (P d), some (.int (0 + (i : Int) * 1))] [] := by simp [h]
          rw [sv_seq, t1, sk_nx, sv_par2 (x := P d) (y := P (divM p c d).2) (st1 := [])]
          · rfl
          · simp [cd, ix]
        rw [eb]
        refine ⟨d, (divM p c d).2, _, rfl, rfl, hd, (divM_nrm hp.pos c d).2, by omega, by omega, ?_⟩
        rw [← hr]
        show _ = if d = [] then c else comM p d.length d (divM p c d).2
        rw [if_neg h]
        exact comM_two hp _ _ _ _ (divM_nrm hp.pos c d).2 (by omega) (by omega)) (by
      rintro _ _ ⟨c, d, o3, rfl, rfl, hc, hd, hc1, hd1, hr⟩
      have : (rngL 0 1 (a.length + b.length + 2)).length = a.length + b.length + 2 := by simp [rngL]
      omega)
  have e : w__law_po_common_1 [some (.int p), some (P a), some (P b), none] [] = .go .nx sd2 [] := e
  subst h1
  simp only [sv_seq, e, sk_nx, sv_ret, ev_cal, ev_cons, ev_v0, ev_vs, ev_nil, rb_ok, List.append_nil, c_po_monic hp h2 h3, rs_ok, retD_ret]
/-! ### slopes, powers, values -/
theorem c_po_slope {p : Int} {a : List Int} (hp : isP p) (ha : Lo p a) (ha1 : a.length ≤ 500) (st : Sto) : callD 2 f__law_po_slope st [.int p, P a] = .ok (P (sloM p a)) st := by
  refine cd_ok (fn_ret ?_ (noH_P _)) rfl (by simp) st
  show retD (sRet _ [some (.int p), some (P a), none, none] []) = _
  have q : q__law_po_slope_1 [some (.int p), some (P a), none, none] [] = .ok (((a.zipIdx.map fun q => (q.2 : Int) * q.1).map (· % p)).map D.int) [] := by
    refine (lc_map (fg := gTupD (gNameD 2 :: gNameD 3 :: [])) (fe := e__law_po_slope_1) (vs := [2, 3]) (wk_enu (f := eVar 1) (sd := [some (.int p), some (P a), none, none]) (st := []) (st' := []) rfl (sq_P a)) (by simp; unfold lineN; omega) (fun d => match d with
      | .tup [.int i, .int x] => .int (i * x % p)
      | d => d) fun i x hx => ?_).trans ?_
    · obtain ⟨hi, rfl⟩ := en_at hx
      refine ⟨[some (.int p), some (P a), some (.int i), some (.int a[i])], by simp [wipeD], ?_⟩
      show eOp _ _ _ _ _ = _
      simp [o_mul (st := []) (i := (i : Int)) (.inr (sm hp (ha.at hi))), o_mod hp.pos]
    · unfold enuL
      rw [List.map_map, List.map_map, List.map_map]
      congr 1
      rw [List.zipIdx_map, List.map_map]
      apply List.map_congr_left
      intro q _
      rfl
  have e := o_cutL (f := eFz q__law_po_slope_1) (lo := oAt (eC (.int 1))) (hi := oNo) (sd := [some (.int p), some (P a), none, none]) (st := []) (by rw [ev_fz, q]; rfl) (show _ = Res.ok (some 1) [] from rfl) rfl
  simp only [sv_ret, ev_cal, ev_cons, ev_v0, ev_vs, ev_nil, rb_ok, List.append_nil, ev_fz] at e ⊢
  rw [e, cut_tail, ← List.map_drop]
  simp only [rb_ok]
  rw [c_cut (by simp; omega), ← List.map_drop]
  rfl
theorem c_po_at {p x : Int} {a : List Int} (hp : isP p) (st : Sto) : callD 3 f__law_po_at st [.int p, P a, .int x] = .ok (.int (valM p a x)) st := by
  refine cd_ok (fn_ret ?_ rfl) rfl (by simp) st
  show retD (sSeq _ (sSeq w__law_po_at_1 _) [some (.int p), some (P a), some (.int x), none, none] []) = _
  obtain ⟨sd2, st2, e, o4, h1, h2⟩ := for_run (fg := gNameD 4) (b := y__law_po_at_1) (wk_seq (f := eRevT (eVar 1)) (sd := [some (.int p), some (P a), some (.int x), some (.int 0), none]) (st := []) (st' := []) (rev_P rfl) (sq_P a.reverse))
    (fun i sd st => ∃ o4 : Option D, sd = [some (.int p), some (P a), some (.int x), some (.int ((a.reverse.take i).foldl (fun acc e => (acc * x + e) % p) 0)), o4] ∧ st = []) ⟨none, by simp, rfl⟩ (by
      rintro i d _ _ hx ⟨o4, rfl, rfl⟩
      obtain ⟨hi, rfl⟩ := mi_at hx
      refine ⟨[some (.int p), some (P a), some (.int x), some (.int ((a.reverse.take i).foldl (fun acc e => (acc * x + e) % p) 0)), some (.int a.reverse[i])], [], _, _, by simp, ?_, some (.int a.reverse[i]), rfl, rfl⟩
      show sSet 3 _ _ _ = _
      have hm := o_mul (st := []) (j := x) (.inl (sm hp (val_lo hp (a.reverse.take i) x)))
      simp only [sv_set, ev_op, ev_cb, ev_cons, ev_nil, ev_v0, ev_vs, rb_ok, hm, ro_some, o_add, i_int, o_ints, o_mod hp.pos, rs_ok, List.set_cons_succ, List.set_cons_zero, foldl_take _ _ _ hi])
  have e : w__law_po_at_1 [some (.int p), some (P a), some (.int x), some (.int 0), none] [] = .go .nx sd2 st2 := e
  rw [List.length_map, List.take_length] at h1
  subst h1
  simp only [sv_seq, sv_set, ev_c, rs_ok, sk_nx, List.set_cons_succ, List.set_cons_zero, e, sv_ret, ev_vs, ev_v0, retD_ret]
  rfl
theorem repM_len {p : Int} (hp : isP p) (a : List Int) : ∀ n : Nat, (repM p a n).length - 1 ≤ n * (a.length - 1)
  | 0 => by simp [repM]
  | n + 1 => by
    have h1 := repM_len hp a n
    have h2 : repM p a (n + 1) = timesM p (repM p a n) a := (times_prod hp.pos _ _).symm
    rw [h2, Nat.succ_mul]
    have := deg_times (p := p) (repM p a n) a
    omega
theorem repM_nrm {p : Int} (hp : isP p) (a : List Int) : ∀ n : Nat, Nrm p (repM p a n)
  | 0 => one_nrm hp
  | n + 1 => prodM_ok hp.pos _ _
theorem c_po_power {p : Int} {a : List Int} {k : Nat} (hp : isP p) (ha : Nrm p a) (hk : k ≤ 60) (hl : k * (a.length - 1) ≤ 60) (ha1 : a.length ≤ 61) (st : Sto) : callD 3 f__law_po_power st [.int p, P a, .int k] = .ok (P (repM p a k)) st := by
  refine cd_ok (fn_ret ?_ (noH_P _)) rfl (by simp) st
  show retD (sSeq _ (sSeq w__law_po_power_1 _) [some (.int p), some (P a), some (.int k), none, none] []) = _
  have hw := wk_rng (fs := aCons (eVar 2) aNil) (sd := [some (.int p), some (P a), some (.int k), some (P [1]), none]) (st := []) (st' := []) (k := 1) (ds := [.int (k : Int)]) (by simp) rfl (rng1 (n := k) (by omega))
  obtain ⟨sd2, st2, e, o4, h1, h2⟩ := for_run (fg := gNameD 4) (b := y__law_po_power_1) hw
    (fun i sd st => ∃ o4 : Option D, sd = [some (.int p), some (P a), some (.int k), some (P (repM p a i)), o4] ∧ st = []) ⟨none, rfl, rfl⟩ (by
      rintro i d _ _ hx ⟨o4, rfl, rfl⟩
      obtain ⟨hi, rfl⟩ := rg_at hx
      have hm : i * (a.length - 1) ≤ k * (a.length - 1) := Nat.mul_le_mul_right _ (by omega)
      have hr := repM_len hp a i
      refine ⟨[some (.int p), some (P a), some (.int k), some (P (repM p a i)), some (.int (0 + (i : Int) * 1))], [], _, _, by simp only [gv_name, List.set_cons_succ, List.set_cons_zero], ?_, some (.int (0 + (i : Int) * 1)), rfl, rfl⟩
      show sSet 3 _ _ _ = _
      simp only [sv_set, ev_cal, ev_cons, ev_v0, ev_vs, ev_nil, rb_ok, List.append_nil, c_po_product hp (repM_nrm hp a i).lo (show (repM p a i).length ≤ 400 by omega) (show a.length ≤ 400 by omega), rs_ok, List.set_cons_succ, List.set_cons_zero]
      rfl)
  have e : w__law_po_power_1 [some (.int p), some (P a), some (.int k), some (P [1]), none] [] = .go .nx sd2 st2 := e
  have hlen : (rngL 0 1 k).length = k := by simp [rngL]
  rw [hlen] at h1
  subst h1
  have hl1 : ([D.int 1] : List D).length ≤ lineN := by simp [lineN]
  simp only [sv_seq, sv_set, ev_tup, ev_cons, ev_c, ev_nil, rb_ok, if_pos hl1, P1, rs_ok, sk_nx, List.set_cons_succ, List.set_cons_zero, e, sv_ret, ev_vs, ev_v0, retD_ret]
/-! ### is it a polynomial here -/
theorem cut_last (xs : List Int) : cutG xs (some (-1)) none = if xs = [] then [] else [lastM xs] := by
  rcases List.eq_nil_or_concat xs with h | ⟨ys, y, h⟩
  · rw [h]; rfl
  · rw [List.concat_eq_append] at h
    subst h
    unfold cutG
    have e1 : HT.sIx (ys ++ [y]).length 0 (some (-1)) = ys.length := by
      show ((-1 : Int) + ((ys ++ [y]).length : Int)).toNat = _
      simp
      omega
    have e2 : HT.sIx (ys ++ [y]).length (ys ++ [y]).length none = (ys ++ [y]).length := rfl
    rw [e1, e2, if_neg (by simp), List.drop_left]
    simp [lastM, List.getD_eq_getElem?_getD]
theorem o_cutT {f : EE} {sd : Sl} {st : Sto} {xs : List Int} {lo hi : EO} {l u : Option Int} (e1 : f sd st = .ok (P xs) st) (e2 : lo sd st = .ok l st) (e3 : hi sd st = .ok u st) : eCutT f lo hi sd st = .ok (P (cutG xs l u)) st := by
  unfold eCutT
  rw [e1, rb_ok, e2, rb_ok, e3, rb_ok]
  show Res.ok (D.tup (cutG (xs.map D.int) l u)) st = _
  unfold cutG P
  rw [List.length_map, List.map_take, List.map_drop]
theorem filter_ints (q : Int → Bool) (xs : List Int) : (xs.map D.int).filterMap (fun d => if q (dI d) = true then some d else none) = (xs.filter q).map D.int := by
  induction xs with
  | nil => rfl
  | cons x xs ih =>
    rw [List.map_cons, List.filterMap_cons, List.filter_cons]
    have e : (if q (dI (D.int x)) = true then some (D.int x) else none) = if q x = true then some (D.int x) else none := rfl
    rw [e]
    by_cases h : q x = true
    · rw [if_pos h, if_pos h, List.map_cons, ← ih]
    · rw [if_neg h, if_neg h, ← ih]
theorem c_poly_here {p : Int} {xs : List Int} (hp : isP p) (hl : xs.length ≤ 1000) (st : Sto) : callD 2 f__law_is_poly_here st [.int p, P xs] = .ok (.bl (polyB p xs && decide (xs.length ≤ 61))) st := by
  refine cd_ok (fn_ret ?_ rfl) rfl (by simp) st
  show retD (sSeq _ (sSeq _ (sRet (eAndV _ _))) [some (.int p), some (P xs), none] []) = _
  have i1 : isiD [] [P xs, .ty "tuple"] = some (.bl true) := by
    show (kitB "tuple" "tuple").map D.bl = _
    rw [kit_tt]; rfl
  have t1 : eOr (eNot (eTest (eCB isiD (aCons (eVar 1) (aCons (eC (.ty "tuple")) aNil))))) (eTest (eOp (ints2 fun i j => some (.bl (decide (j < i)))) (eCB lenD (aCons (eVar 1) aNil)) (eC (.int 61)))) [some (.int p), some (P xs), none] [] = .ok (decide ((61 : Int) < xs.length)) [] := by
    simp only [ev_or, ev_not, ev_test, ev_cb, ev_cons, ev_vs, ev_v0, ev_c, ev_nil, rb_ok, i1, ro_some, isB_bl, Bool.not_true, if_neg Bool.false_ne_true, ev_op, l_lenP, o_ints]
  by_cases h61 : (61 : Int) < xs.length
  · rw [sv_seq, sv_if, t1, rs_ok, decide_eq_true h61, if_pos rfl]
    rw [decide_eq_false (show ¬ xs.length ≤ 61 by omega), Bool.and_false]
    rfl
  · have q1 : q__law_is_poly_here_1 [some (.int p), some (P xs), none] [] = .ok [] [] := by
      refine (lc_pure (fg := gNameD 2) (ft := t__law_is_poly_here_1) (fe := e__law_is_poly_here_1) (vs := [2]) (wk_seq (f := eVar 1) (sd := [some (.int p), some (P xs), none]) (st := []) (st' := []) rfl (sq_P xs)) (by simp; unfold lineN; omega) (fun _ => none) fun i x hx => ?_).trans ?_
      · obtain ⟨hi, rfl⟩ := mi_at hx
        refine ⟨[some (.int p), some (P xs), some (.int xs[i])], by simp [wipeD], .inr ⟨?_, rfl⟩⟩
        show eOr _ _ _ _ = _
        simp [isiD, D.clsH, D.cls, kit_ii, kit_ib]
      · simp
    have q2 : q__law_is_poly_here_2 [some (.int p), some (P xs), none] [] = .ok ((xs.filter fun x => !(decide (0 ≤ x) && decide (x < p))).map D.int) [] := by
      refine (lc_pure (fg := gNameD 2) (ft := t__law_is_poly_here_2) (fe := e__law_is_poly_here_2) (vs := [2]) (wk_seq (f := eVar 1) (sd := [some (.int p), some (P xs), none]) (st := []) (st' := []) rfl (sq_P xs)) (by simp; unfold lineN; omega) (fun d => if (!(decide (0 ≤ dI d) && decide (dI d < p))) = true then some d else none) fun i x hx => ?_).trans ?_
      · obtain ⟨hi, rfl⟩ := mi_at hx
        refine ⟨[some (.int p), some (P xs), some (.int xs[i])], by simp [wipeD], ?_⟩
        have ch : eChain (ints2 fun i j => some (.bl (decide (i ≤ j)))) (ints2 fun i j => some (.bl (decide (i < j)))) (eC (.int 0)) (eVar 2) (eVar 0) [some (.int p), some (P xs), some (.int xs[i])] [] = .ok (.bl (decide (0 ≤ xs[i]) && decide (xs[i] < p))) [] := by
          rw [ev_chain (st1 := []) (st2 := []) (x := .int 0) (y := .int xs[i]) (k := decide (0 ≤ xs[i])) rfl rfl rfl]
          by_cases h : 0 ≤ xs[i]
          · simp [h]
          · simp [h]
        have tt : t__law_is_poly_here_2 [some (.int p), some (P xs), some (.int xs[i])] [] = .ok (!(decide (0 ≤ xs[i]) && decide (xs[i] < p))) [] := by
          show eNot (eTest _) _ _ = _
          rw [ev_not, ev_test, ch]; rfl
        cases hb : !(decide (0 ≤ xs[i]) && decide (xs[i] < p)) with
        | true => exact .inl ⟨.int xs[i], by rw [tt, hb], rfl, by show (if _ = true then _ else _) = _; exact if_pos hb⟩
        | false => exact .inr ⟨by rw [tt, hb], by show (if _ = true then _ else _) = _; exact if_neg (by rw [show dI (.int xs[i]) = xs[i] from rfl, hb]; exact Bool.false_ne_true)⟩
      · congr 1
        exact filter_ints (fun x => !(decide (0 ≤ x) && decide (x < p))) xs
    have e1 : neD [] (.lst []) (.lst []) = some (.bl false) := rfl
    have t2 : eTest (eOp neD (eFz q__law_is_poly_here_1) (eFz (fLst aNil))) [some (.int p), some (P xs), none] [] = .ok false [] := by
      simp only [ev_test, ev_op, ev_fz, q1, rb_ok, ev_lst, ev_nil, List.length_nil, Nat.zero_le, if_true, e1, ro_some, isB_bl]
    have e2 : eqD [] (.lst ((xs.filter fun x => !(decide (0 ≤ x) && decide (x < p))).map D.int)) (.lst []) = some (.bl (decide (xs.filter (fun x => !(decide (0 ≤ x) && decide (x < p))) = []))) := by
      unfold eqD
      rw [eqB_L (ys := []) (py_lst _) rfl]
      rfl
    have v1 : eOp eqD (eFz q__law_is_poly_here_2) (eFz (fLst aNil)) [some (.int p), some (P xs), none] [] = .ok (.bl (decide (xs.filter (fun x => !(decide (0 ≤ x) && decide (x < p))) = []))) [] := by
      simp only [ev_op, ev_fz, q2, rb_ok, ev_lst, ev_nil, List.length_nil, Nat.zero_le, if_true, e2, ro_some]
    have hl0 : ([D.int 0] : List D).length ≤ lineN := by simp [lineN]
    have p0 : D.tup [D.int 0] = P [0] := rfl
    have v2 : eOp neD (eCutT (eVar 1) (oAt (eUn negD (eC (.int 1)))) oNo) (eTup (aCons (eC (.int 0)) aNil)) [some (.int p), some (P xs), none] [] = .ok (.bl (!decide (cutG xs (some (-1)) none = [0]))) [] := by
      rw [ev_op, o_cutT (xs := xs) (l := some (-1)) (u := none) rfl rfl rfl]
      simp only [rb_ok, ev_tup, ev_cons, ev_c, ev_nil, if_pos hl0, p0, o_neP, ro_some]
    rw [sv_seq, sv_if, t1, rs_ok, decide_eq_false h61, if_neg Bool.false_ne_true, sv_next, sk_nx, sv_seq, sv_if, t2, rs_ok, if_neg Bool.false_ne_true, sv_next, sk_nx, sv_ret, ev_andV' v1, v2]
    rw [decide_eq_true (show xs.length ≤ 61 by omega), Bool.and_true]
    unfold polyB
    have hall : decide (xs.filter (fun x => !(decide (0 ≤ x) && decide (x < p))) = []) = xs.all fun x => decide (0 ≤ x) && decide (x ≤ p - 1) := by
      clear hl t1 i1 q1 h61 q2 t2 e2 v1 v2
      induction xs with
      | nil => rfl
      | cons x xs ih =>
        rw [List.filter_cons, List.all_cons]
        have hx : decide (x < p) = decide (x ≤ p - 1) := by
          by_cases h : x < p
          · rw [decide_eq_true h, decide_eq_true (by omega)]
          · rw [decide_eq_false h, decide_eq_false (by omega)]
        rw [hx]
        cases hb : decide (0 ≤ x) && decide (x ≤ p - 1) with
        | true => rw [Bool.not_true, if_neg Bool.false_ne_true, Bool.true_and]; exact ih
        | false => rw [Bool.not_false, if_pos rfl, Bool.false_and]; exact decide_eq_false (by simp)
    rw [hall]
    cases xs.all fun x => decide (0 ≤ x) && decide (x ≤ p - 1) with
    | false => rfl
    | true =>
      rw [if_pos rfl, rs_ok, retD_ret, cut_last]
      by_cases h : xs = []
      · simp [h]
      · simp [h]
end Gn
namespace Gn
open PySem PySem.Spec PyProof.Rows L2 DS Pm

/-! ### what is drawn -/
abbrev B3 (a b c : Int) : List D := [.int a, .int b, .int c]
def IsBag (xs : List D) : Prop := ∃ a b c, xs = B3 a b c
theorem IsBag.noH {xs : List D} (h : IsBag xs) : D.noHs xs = true := by
  obtain ⟨a, b, c, rfl⟩ := h; rfl
theorem b_0 (a b c : Int) : L2.atI (B3 a b c) 0 = some (.int a) := id rfl
theorem b_1 (a b c : Int) : L2.atI (B3 a b c) 1 = some (.int b) := id rfl
theorem b_2 (a b c : Int) : L2.atI (B3 a b c) 2 = some (.int c) := id rfl
theorem md_lo {x p : Int} (h : 0 < p) : 0 ≤ x % p ∧ x % p < p := ⟨Int.emod_nonneg _ (by omega), Int.emod_lt_of_pos _ h⟩
theorem u_grab {xs : List D} {t : Int} (hb : IsBag xs) (h0 : 0 < t) (h1 : t.natAbs.log2 < 9000) : ∃ r ys, f__law_grab [.lst xs] [.hnd 0, .int t] = .ok (.int r) [.lst ys] ∧ IsBag ys ∧ 0 ≤ r ∧ r < t := by
  obtain ⟨a, b, c, rfl⟩ := hb
  by_cases ha : 0 < a
  · refine ⟨a % t, B3 (a / t) b c, fn_ret1 ?_ rfl rfl, ⟨_, _, _, rfl⟩, md_lo h0⟩
    show retB (sSeq (sIf _ (sSeq _ (sSeq (sPut (eOp (ints2 divI) (eOp ixD (eVar 0) (eC (.int 0))) (eVar 1)) (eVar 0) (eC (.int 0))) _)) _) _ [some (.hnd 0), some (.int t), none, none, none] [.lst (B3 a b c)]) = _
    have put : sPut (eOp (ints2 divI) (eOp ixD (eVar 0) (eC (.int 0))) (eVar 1)) (eVar 0) (eC (.int 0)) [some (.hnd 0), some (.int t), none, none, some (.int (a % t))] [.lst (B3 a b c)] = .go .nx [some (.hnd 0), some (.int t), none, none, some (.int (a % t))] [.lst (B3 (a / t) b c)] := by
      rw [sv_put (st1 := [.lst (B3 a b c)]) (st2 := [.lst (B3 a b c)]) (st3 := [.lst (B3 a b c)]) (h := 0) (k := 0) (j := 0) (y := .int (a / t)) (xs := B3 a b c) (by simp only [ev_op, ev_v0, ev_vs, ev_c, rb_ok, ix_hnd, ca_zero, Option.bind_some, b_0, ro_some, o_ints, o_div h0 h1]) rfl rfl rfl rfl]
      rfl
    simp only [sv_seq, sv_if, ev_test, ev_op, ev_v0, ev_vs, ev_c, rb_ok, ix_hnd, ca_zero, Option.bind_some, b_0, ro_some, o_ints, isB_bl, ha, decide_true, rs_ok, if_true, sv_set, ev_cb, ev_cons, ev_nil, i_int, o_mod h0, sk_nx, List.set_cons_succ, List.set_cons_zero, put, sv_ret, sk_ret, retB_ret]
  · refine ⟨((((((b + 67867979 * (c + 1)) % 2305843009213693951) * ((b + 67867979 * (c + 1)) % 2305843009213693951) + 101 * (c + 1)) % 2305843009213693921 * 4256233 + (b + 67867979 * (c + 1)) % 2305843009213693951) / 65537) % t), B3 a b (c + 1), fn_ret1 ?_ rfl rfl, ⟨_, _, _, rfl⟩, md_lo h0⟩
    show retB (sSeq (sIf _ _ _) (sSeq (sPut (eOp addD (eOp ixD (eVar 0) (eC (.int 2))) (eC (.int 1))) (eVar 0) (eC (.int 2))) _) [some (.hnd 0), some (.int t), none, none, none] [.lst (B3 a b c)]) = _
    have put : sPut (eOp addD (eOp ixD (eVar 0) (eC (.int 2))) (eC (.int 1))) (eVar 0) (eC (.int 2)) [some (.hnd 0), some (.int t), none, none, none] [.lst (B3 a b c)] = .go .nx [some (.hnd 0), some (.int t), none, none, none] [.lst (B3 a b (c + 1))] := by
      rw [sv_put (st1 := [.lst (B3 a b c)]) (st2 := [.lst (B3 a b c)]) (st3 := [.lst (B3 a b c)]) (h := 0) (k := 2) (j := 2) (y := .int (c + 1)) (xs := B3 a b c) (by simp only [ev_op, ev_v0, ev_vs, ev_c, rb_ok, ix_hnd, ca_zero, Option.bind_some, b_2, ro_some, o_add]) rfl rfl rfl rfl]
      rfl
    have s1 : small64 67867979 = true := by decide
    have s2 : small64 101 = true := by decide
    have s3 : small64 4256233 = true := by decide
    have m1 : (0 : Int) < 2305843009213693951 := by decide
    have m2 : (0 : Int) < 2305843009213693921 := by decide
    have sq : ∀ x : Int, small64 (x % 2305843009213693951) = true := fun x => by
      have := md_lo (x := x) m1
      exact small_of (by omega) (by omega)
    have d1 : ∀ x : Int, divI x 65537 = some (.int (x / 65537)) := fun x => o_div (by decide) (by decide)
    simp only [sv_seq, sv_if, ev_test, ev_op, ev_v0, ev_vs, ev_c, rb_ok, ix_hnd, ca_zero, Option.bind_some, b_0, ro_some, o_ints, isB_bl, ha, decide_false, rs_ok, if_neg Bool.false_ne_true, sv_next, sk_nx, put, sv_set, ev_cb, ev_cons, ev_nil, b_1, b_2, o_mul (.inl s1), o_mul (.inl s2), o_mul (.inr s3), o_mul (.inl (sq _)), o_add, i_int, o_mod m1, o_mod m2, d1, o_mod h0, List.set_cons_succ, List.set_cons_zero, sv_ret, retB_ret]
theorem st_set {st : Sto} {h : Nat} {ys : List D} {xs : List D} (hs : st[h]? = some (.lst xs)) : (st.set h (.lst ys))[h]? = some (Cell.lst ys) := by
  rw [List.getElem?_set_self]
  exact (List.getElem?_eq_some_iff.mp hs).1
theorem c_grab {st : Sto} {h : Nat} {xs : List D} {t : Int} (hs : st[h]? = some (.lst xs)) (hb : IsBag xs) (h0 : 0 < t) (h1 : t.natAbs.log2 < 9000) : ∃ r ys, callBD 2 f__law_grab st [.hnd h, .int t] = .ok (.int r) (st.set h (.lst ys)) ∧ IsBag ys ∧ 0 ≤ r ∧ r < t := by
  obtain ⟨r, ys, e, hy, h2⟩ := u_grab hb h0 h1
  exact ⟨r, ys, cb_ok hs e rfl hb.noH rfl rfl hy.noH, hy, h2⟩
theorem noHs_mem {xs : List D} (h : D.noHs xs = true) {x : D} (hx : x ∈ xs) : x.noH = true := by
  obtain ⟨i, hi, rfl⟩ := List.mem_iff_getElem.mp hx
  exact noHs_get h (List.getElem?_eq_getElem hi)
theorem u_one_of {xs items : List D} (hb : IsBag xs) (hi : items ≠ []) (hl : items.length ≤ 1000) (hn : D.noHs items = true) : ∃ x ys, f__law_one_of [.lst xs] [.hnd 0, .lst items] = .ok x [.lst ys] ∧ IsBag ys ∧ x ∈ items := by
  have hl0 : 0 < items.length := List.length_pos_iff.mpr hi
  have hlog : ((items.length : Int)).natAbs.log2 < 9000 := by
    rw [Int.natAbs_natCast]
    have : items.length < 2 ^ 10 := by omega
    have := (Nat.log2_lt (by omega)).mpr this
    omega
  obtain ⟨r, ys, e, hy, h1, h2⟩ := c_grab (st := [.lst xs]) (h := 0) (t := (items.length : Int)) rfl hb (by omega) hlog
  have hr : r.toNat < items.length := by omega
  refine ⟨items[r.toNat], ys, fn_ret1 ?_ (noHs_mem hn (List.getElem_mem hr)) hy.noH, hy, List.getElem_mem hr⟩
  show retB (sRet _ [some (.hnd 0), some (.lst items)] [.lst xs]) = _
  simp only [sv_ret, ev_op, ev_v0, ev_vs, rb_ok, ev_calB, ev_cons, ev_cb, ev_nil, l_lenL, ro_some, List.append_nil, e, x_L, atI_lt hr (i := r) (by omega), rs_ok, List.set_cons_zero, retB_ret]
theorem c_one_of {st : Sto} {h : Nat} {xs items : List D} (hs : st[h]? = some (.lst xs)) (hb : IsBag xs) (hi : items ≠ []) (hl : items.length ≤ 1000) (hn : D.noHs items = true) : ∃ x ys, callBD 2 f__law_one_of st [.hnd h, .lst items] = .ok x (st.set h (.lst ys)) ∧ IsBag ys ∧ x ∈ items := by
  obtain ⟨r, ys, e, hy, h2⟩ := u_one_of hb hi hl hn
  exact ⟨r, ys, cb_ok hs e rfl hb.noH (by simp [hn]) (noHs_mem hn h2) hy.noH, hy, h2⟩
/-! ### drawn polynomials -/
theorem w_drawn {p m : Int} {B : List D} {xs : List Int} {o : Option D} (hl : xs.length ≤ 1000) : ∃ sd2 st2, w__law_poly_drawn_1 [some (.hnd 0), some (.int p), some (.int m), some (.hnd 1), o] [.lst B, .lst (xs.map D.int)] = .go .nx sd2 st2 ∧ sd2 = [some (.hnd 0), some (.int p), some (.int m), some (.hnd 1), o] ∧ st2 = [.lst B, .lst ((trim xs).map D.int)] := by
  refine while_run (n := xs.length) (fun n sd st => ∃ zs : List Int, sd = [some (.hnd 0), some (.int p), some (.int m), some (.hnd 1), o] ∧ st = [.lst B, .lst (zs.map D.int)] ∧ n = zs.length ∧ trim zs = trim xs) (fun sd st => sd = [some (.hnd 0), some (.int p), some (.int m), some (.hnd 1), o] ∧ st = [.lst B, .lst ((trim xs).map D.int)]) (by omega) ⟨xs, rfl, rfl, rfl, rfl⟩ ?_
  rintro n _ _ ⟨zs, rfl, rfl, rfl, hz⟩
  rcases List.eq_nil_or_concat zs with e | ⟨ys, y, e⟩
  · subst e
    left
    refine ⟨?_, rfl, by rw [← hz]; rfl⟩
    show eAnd _ _ _ _ = _
    simp [o_neH (ns := []) (st := [.lst B, .lst []]) (h := 1) rfl]
  · rw [List.concat_eq_append] at e
    subst e
    have hlast : L2.atI ((ys ++ [y]).map D.int) (-1) = some (.int y) := by
      rw [atI_map, atI_last (by simp)]
      simp [lastM, List.getD_eq_getElem?_getD]
    have ht : t__law_poly_drawn_1 [some (.hnd 0), some (.int p), some (.int m), some (.hnd 1), o] [.lst B, .lst ((ys ++ [y]).map D.int)] = .ok (decide (y = 0)) [.lst B, .lst ((ys ++ [y]).map D.int)] := by
      show eAnd _ _ _ _ = _
      have hn : neD [.lst B, .lst ((ys ++ [y]).map D.int)] (.hnd 1) (.lst []) = some (.bl true) := by
        rw [o_neH (ns := ys ++ [y]) rfl]; simp
      simp only [ev_and, ev_test, ev_op, ev_v0, ev_vs, ev_fz, ev_lst, ev_nil, rb_ok, List.length_nil, Nat.zero_le, if_true, hn, ro_some, isB_bl, ev_un, ev_c, o_neg, ix_hnd, ca_one, Option.bind_some, hlast, o_eqI]
    by_cases hy : y = 0
    · right
      refine ⟨by rw [ht, hy]; rfl, ys.length, [some (.hnd 0), some (.int p), some (.int m), some (.hnd 1), o], [.lst B, .lst (ys.map D.int)], ?_, by simp, ys, rfl, rfl, rfl, by rw [← hz, hy, trim_zero]⟩
      show sDrop (ePop (eVar 3)) _ _ = _
      rw [sv_drop, sv_pop (h := 1) (st1 := [.lst B, .lst ((ys ++ [y]).map D.int)]) rfl rfl (y := .int y) (by simp)]
      simp
    · left
      refine ⟨by rw [ht]; simp [hy], rfl, ?_⟩
      rw [← hz, trim_nz _ hy]
theorem small_log {n : Int} (h : 0 < n ∧ n ≤ 1000) : n.natAbs.log2 < 9000 := by
  have : n.natAbs < 2 ^ 10 := by omega
  have := (Nat.log2_lt (by omega)).mpr this
  omega
theorem u_drawn {B : List D} {p m : Int} (hp : isP p) (hb : IsBag B) (hm : 0 ≤ m ∧ m ≤ 60) : ∃ xs ys, f__law_poly_drawn [.lst B] [.hnd 0, .int p, .int m] = .ok (P xs) [.lst ys] ∧ IsBag ys ∧ Nrm p xs ∧ (xs.length : Int) ≤ m + 1 := by
  have hpb : 0 < p ∧ p ≤ 1000 := by rcases hp with h | h | h | h <;> omega
  obtain ⟨r, B1, e1, hb1, r0, r1⟩ := c_grab (st := [.lst B]) (h := 0) (t := m + 2) rfl hb (by omega) (small_log ⟨by omega, by omega⟩)
  obtain ⟨n, rfl⟩ : ∃ n : Nat, r = n := ⟨r.toNat, by omega⟩
  have hw := wk_rng (fs := aCons (eCalB 2 f__law_grab [] (aCons (eVar 0) (aCons (eOp addD (eVar 2) (eC (.int 2))) aNil))) aNil) (sd := [some (.hnd 0), some (.int p), some (.int m), none, none]) (st := [.lst B]) (st' := [.lst B1]) (k := 1) (ds := [.int (n : Int)]) (by
    simp only [ev_cons, ev_calB, ev_v0, ev_vs, ev_op, ev_c, ev_nil, rb_ok, o_add, ro_some, List.append_nil, e1, List.set_cons_zero]) rfl (rng1 (n := n) (by omega))
  obtain ⟨ys, st2, e2, zs, B2, h1, h2, h3, h4, h5⟩ := lc_gen (fg := gNameD 4) (ft := eYes) (fe := e__law_poly_drawn_1) (vs := [4]) hw (by unfold lineN; omega) (fun i acc st => ∃ (zs : List Int) (B2 : List D), acc = zs.map D.int ∧ zs.length = i ∧ Lo p zs ∧ st = [.lst B2] ∧ IsBag B2) ⟨[], B1, rfl, rfl, by simp [Lo], rfl, hb1⟩ (by
    rintro i x acc _ hx ⟨zs, B2, rfl, hz, hlo, rfl, hb2⟩
    obtain ⟨hi, rfl⟩ := rg_at hx
    obtain ⟨y, B3', e3, hb3, y0, y1⟩ := c_grab (st := [.lst B2]) (h := 0) (t := p) rfl hb2 hpb.1 (small_log hpb)
    refine ⟨[some (.hnd 0), some (.int p), some (.int m), none, some (.int (0 + (i : Int) * 1))], by simp [wipeD], .inl ⟨_, [.lst B3'], .int y, rfl, ?_, zs ++ [y], B3', by simp, by simp [hz], ?_, rfl, hb3⟩⟩
    · show eCalB _ _ _ _ _ _ = _
      simp only [ev_calB, ev_cons, ev_v0, ev_vs, ev_nil, rb_ok, List.append_nil, e3, List.set_cons_zero]
    · intro z hz
      rcases List.mem_append.mp hz with h | h
      · exact hlo z h
      · simp at h
        rw [h]; exact ⟨y0, y1⟩)
  have q : q__law_poly_drawn_1 [some (.hnd 0), some (.int p), some (.int m), none, none] [.lst B] = .ok ys st2 := e2
  subst h1 h4
  have hlen : (rngL 0 1 n).length = n := by simp [rngL]
  rw [hlen] at h2
  obtain ⟨sd3, st3, e3, rfl, rfl⟩ := w_drawn (p := p) (m := m) (B := B2) (xs := zs) (o := none) (by omega)
  refine ⟨trim zs, B2, fn_ret1 ?_ (noH_P _) h5.noH, h5, ⟨fun x hx => h3 x (trim_mem hx), trim_idem _⟩, by have := trim_len zs; omega⟩
  show retB (sSeq (sSet 3 (eHnd q__law_poly_drawn_1)) (sSeq w__law_poly_drawn_1 _) [some (.hnd 0), some (.int p), some (.int m), none, none] [.lst B]) = _
  simp only [sv_seq, sv_set, ev_hnd, q, rb_ok, rs_ok, sk_nx, List.length_cons, List.length_nil, Nat.zero_add, List.cons_append, List.nil_append, List.set_cons_succ, List.set_cons_zero, e3, sv_ret, ev_cb, ev_cons, ev_vs, ev_v0, ev_nil, tp_hnd, ca_one, Option.map_some, ro_some, P_fold, retB_ret]
theorem c_drawn {st : Sto} {h : Nat} {B : List D} {p m : Int} (hs : st[h]? = some (.lst B)) (hp : isP p) (hb : IsBag B) (hm : 0 ≤ m ∧ m ≤ 60) : ∃ xs ys, callBD 3 f__law_poly_drawn st [.hnd h, .int p, .int m] = .ok (P xs) (st.set h (.lst ys)) ∧ IsBag ys ∧ Nrm p xs ∧ (xs.length : Int) ≤ m + 1 := by
  obtain ⟨xs, ys, e, hy, h2⟩ := u_drawn hp hb hm
  exact ⟨xs, ys, cb_ok hs e rfl hb.noH rfl (noH_P _) hy.noH, hy, h2⟩
end Gn
namespace Gn
open PySem PySem.Spec PyProof.Rows L2 DS Pm

/-! ### the paper is right -/
theorem ne_refl {st : Sto} {d : D} {q : PyData} (h : pyH st d = some q) (hs : SeqAt.shaped q = true) : neD st d d = some (.bl false) := by
  unfold neD eqB
  rw [h]
  show (if SeqAt.shaped q && SeqAt.shaped q then some (PyData.eqv q q) else none).map _ = _
  rw [hs, SeqAt.eqv_refl]
  · rfl
  all_goals first | exact hs | exact (Bool.and_eq_true_iff.mp hs).1
theorem isi_P (xs : List Int) (st : Sto) : isiD st [P xs, .ty "tuple"] = some (.bl true) := by
  show (kitB "tuple" "tuple").map D.bl = _
  rw [kit_tt]; rfl
theorem isi_T (xs : List D) (st : Sto) : isiD st [.tup xs, .ty "tuple"] = some (.bl true) := by
  show (kitB "tuple" "tuple").map D.bl = _
  rw [kit_tt]; rfl
theorem c_paper_right {p : Int} {a b s f w : List Int} (hp : isP p) (ha : Nrm p a) (hb : Nrm p b) (ha1 : a.length ≤ 61) (hb1 : b.length ≤ 61) (Q : Paper p a b s f w) (hs : s.length ≤ 400) (st : Sto) : callD 4 f__law_is_paper_right st [.int p, P a, P b, .tup [P s, P f, P w]] = .ok (.bl true) st := by
  refine cd_ok (fn_ret ?_ rfl) rfl (by simp) st
  show retD (sSeq _ (sSeq _ (sSeq _ (sSeq _ (sSeq _ (sSeq _ _))))) [some (.int p), some (P a), some (P b), some (.tup [P s, P f, P w]), none, none, none, none, none, none] []) = _
  have x0 : L2.atI [P s, P f, P w] 0 = some (P s) := rfl
  have cc : callD 3 f__law_po_common [] [.int p, P a, P b] = .ok (P s) [] := by rw [c_po_common hp ha hb (by omega) (by omega), ← Q.com]
  have s1 : sIf (eOr (eNot (eTest (eCB isiD (aCons (eVar 3) (aCons (eC (.ty "tuple")) aNil))))) (eOr (eTest (eOp neD (eCB lenD (aCons (eVar 3) aNil)) (eC (.int 3)))) (eTest (eOp neD (eOp ixD (eVar 3) (eC (.int 0))) (eCal 3 f__law_po_common [] (aCons (eVar 0) (aCons (eVar 1) (aCons (eVar 2) aNil)))))))) (sRet (eC (.bl false))) sNext [some (.int p), some (P a), some (P b), some (.tup [P s, P f, P w]), none, none, none, none, none, none] [] = .go .nx [some (.int p), some (P a), some (P b), some (.tup [P s, P f, P w]), none, none, none, none, none, none] [] := by
    simp [isi_T, x0, cc]
  have s2 : sAsg (eVar 3) (gTupD (gNameD 5 :: gNameD 6 :: gNameD 7 :: [])) [some (.int p), some (P a), some (P b), some (.tup [P s, P f, P w]), none, none, none, none, none, none] [] = .go .nx [some (.int p), some (P a), some (P b), some (.tup [P s, P f, P w]), none, some (P s), some (P f), some (P w), none, none] [] := by simp
  have inner : ∀ xs : List Int, Nrm p xs → xs.length ≤ 400 → t__law_is_paper_right_1 [some (.int p), some (P a), some (P b), some (.tup [P s, P f, P w]), none, some (P s), some (P f), some (P w), some (P xs), none] [] = .ok false [] := by
    intro xs hx hl
    have q : q__law_is_paper_right_1 [some (.int p), some (P a), some (P b), some (.tup [P s, P f, P w]), none, some (P s), some (P f), some (P w), some (P xs), none] [] = .ok ((xs.map (· % p)).map D.int) [] := by
      refine (lc_map (fg := gNameD 9) (fe := e__law_is_paper_right_1) (vs := [9]) (wk_seq (f := eVar 8) (sd := [some (.int p), some (P a), some (P b), some (.tup [P s, P f, P w]), none, some (P s), some (P f), some (P w), some (P xs), none]) (st := []) (st' := []) rfl (sq_P xs)) (by simp; unfold lineN; omega) (fun d => .int (dI d % p)) fun i x hx => ?_).trans ?_
      · obtain ⟨hi, rfl⟩ := mi_at hx
        refine ⟨[some (.int p), some (P a), some (P b), some (.tup [P s, P f, P w]), none, some (P s), some (P f), some (P w), some (P xs), some (.int xs[i])], by simp [wipeD], ?_⟩
        show eOp _ _ _ _ _ = _
        simp [dI, o_mod hp.pos]
      · rw [List.map_map, List.map_map]; rfl
    rw [map_mod_id hx.lo] at q
    show eOr _ _ _ _ = _
    simp only [ev_or, ev_not, ev_test, ev_cb, ev_cons, ev_vs, ev_v0, ev_c, ev_nil, rb_ok, isi_P, ro_some, isB_bl, Bool.not_true, if_neg Bool.false_ne_true, ev_op, ev_cal, ev_fz, q, List.append_nil, c_cut (show xs.length ≤ 1000 by omega), hx.tr, o_neP, decide_true]
  have q2 : q__law_is_paper_right_2 [some (.int p), some (P a), some (P b), some (.tup [P s, P f, P w]), none, some (P s), some (P f), some (P w), none, none] [] = .ok [] [] := by
    refine (lc_pure (fg := gNameD 8) (ft := t__law_is_paper_right_1) (fe := e__law_is_paper_right_2) (vs := [8]) (wk_seq (f := eVar 3) (sd := [some (.int p), some (P a), some (P b), some (.tup [P s, P f, P w]), none, some (P s), some (P f), some (P w), none, none]) (st := []) (st' := []) (d := .tup [P s, P f, P w]) rfl rfl) (by simp [lineN]) (fun _ => none) fun i x hx => ?_).trans ?_
    · refine ⟨[some (.int p), some (P a), some (P b), some (.tup [P s, P f, P w]), none, some (P s), some (P f), some (P w), some x, none], by simp [wipeD], .inr ⟨?_, rfl⟩⟩
      match i, hx with
      | 0, hx => cases hx; exact inner s Q.ns hs
      | 1, hx => cases hx; exact inner f Q.nf Q.lf
      | 2, hx => cases hx; exact inner w Q.nw Q.lw
      | n + 3, hx => cases hx
    · simp
  have e1 : neD [] (.lst []) (.lst []) = some (.bl false) := rfl
  have s3 : sIf (eTest (eOp neD (eFz q__law_is_paper_right_2) (eFz (fLst aNil)))) (sRet (eC (.bl false))) sNext [some (.int p), some (P a), some (P b), some (.tup [P s, P f, P w]), none, some (P s), some (P f), some (P w), none, none] [] = .go .nx [some (.int p), some (P a), some (P b), some (.tup [P s, P f, P w]), none, some (P s), some (P f), some (P w), none, none] [] := by
    simp only [sv_if, ev_test, ev_op, ev_fz, q2, rb_ok, ev_lst, ev_nil, List.length_nil, Nat.zero_le, if_true, e1, ro_some, isB_bl, rs_ok, if_neg Bool.false_ne_true, sv_next]
  have c1 : callD 3 f__law_po_product [] [.int p, P f, P a] = .ok (P (prodM p f a)) [] := c_po_product hp Q.nf.lo Q.lf (by omega) []
  have c2 : callD 3 f__law_po_product [] [.int p, P w, P b] = .ok (P (prodM p w b)) [] := c_po_product hp Q.nw.lo Q.lw (by omega) []
  have pl : ∀ x y : List Int, x.length ≤ 400 → y.length ≤ 61 → (prodM p x y).length ≤ 500 := by
    intro x y hx hy
    rw [← times_prod hp.pos]
    have := timesM_len (p := p) x y
    omega
  have c3 : callD 4 f__law_po_sum [] [.int p, P (prodM p f a), P (prodM p w b), .int 1] = .ok (P s) [] := by
    rw [c_po_sum hp (prodM_ok hp.pos w b).lo (pl f a Q.lf ha1) (pl w b Q.lw hb1), Q.made]
  rw [sv_seq, s1, sk_nx, sv_seq, s2, sk_nx, sv_seq, s3, sk_nx]
  simp only [sv_seq, sv_set, ev_cal, ev_cons, ev_v0, ev_vs, ev_nil, ev_c, rb_ok, List.append_nil, c1, c2, c3, rs_ok, sk_nx, List.set_cons_succ, List.set_cons_zero, sv_if, ev_or, ev_and, ev_test, ev_op, o_neP, decide_true, Bool.not_true, ro_some, isB_bl, if_neg Bool.false_ne_true, ev_tup, List.length_nil, Nat.zero_le, if_true, o_eqP0, o_neP0]
  have l0 : ∀ x : Bool, (if x = true then Res.ok x ([] : Sto) else .ok false []) = .ok x [] := fun x => by cases x <;> rfl
  by_cases hA : a = []
  · have hF := Q.fa hA
    simp [hA, hF]
    by_cases hB : b = []
    · have hW := Q.wb hB
      simp [hB, hW]
    · simp [hB]
  · by_cases hB : b = []
    · have hW := Q.wb hB
      simp [hA, hB, hW]
    · have sm := Q.small hA hB
      have le : (f.length : Int) ≤ (b.length : Int) - s.length := by omega
      simp [hA, hB, le]
theorem quo_lens {p : Int} {a b : List Int} (hp : isP p) (ha : Nrm p a) (hb : Nrm p b) (ha1 : a.length ≤ 150) (hb1 : b.length ≤ 150) : (papR p a b).1.length ≤ 400 ∧ (papR p a b).2.1.length ≤ 400 ∧ (papR p a b).2.2.length ≤ 400 := by
  obtain ⟨_, _, _, _, _, _, _, _, _, _, _, _, _, h1, h2, h3⟩ := w_paper hp ha hb ha1 hb1
  exact ⟨h1, h2, h3⟩
theorem neT2 (a b : List Int) (st : Sto) : neD st (.tup [P a, P b]) (.tup [P a, P b]) = some (.bl false) := by
  have h : pyH st (.tup [P a, P b]) = some (.tuple [.tuple (a.map PyData.int), .tuple (b.map PyData.int)]) := by
    show (pyDs [P a, P b]).map PyData.tuple = _
    have ea : pyD (P a) = some (.tuple (a.map PyData.int)) := by show (pyDs (a.map D.int)).map PyData.tuple = _; rw [pyDs_ints]; rfl
    have eb : pyD (P b) = some (.tuple (b.map PyData.int)) := by show (pyDs (b.map D.int)).map PyData.tuple = _; rw [pyDs_ints]; rfl
    show (match pyD (P a), (match pyD (P b), pyDs [] with
      | some a, some as => some (a :: as)
      | _, _ => none) with
      | some a, some as => some (a :: as)
      | _, _ => none).map PyData.tuple = _
    rw [ea, eb]; rfl
  refine ne_refl h ?_
  have ha := (shaped_ints a).1
  have hb := (shaped_ints b).1
  unfold SeqAt.shaped at ha hb ⊢
  rw [Bool.and_eq_true, decide_eq_true_eq] at ha hb
  show ((PyData.canLay0 (.tuple (a.map PyData.int)) && (PyData.canLay0 (.tuple (b.map PyData.int)) && true)) && decide (max (PyData.depth (.tuple (a.map PyData.int))) (max (PyData.depth (.tuple (b.map PyData.int))) 0) + 1 ≤ 64)) = true
  have d2 : ∀ xs : List Int, PyData.depth (.tuple (xs.map PyData.int)) ≤ 2 := by
    intro xs
    have h2 : ∀ xs : List Int, PyData.depthAll (xs.map PyData.int) ≤ 1 := by
      intro xs
      induction xs with
      | nil => decide
      | cons x xs ih => show max (PyData.depth (.int x)) (PyData.depthAll (xs.map PyData.int)) ≤ 1; exact Nat.max_le.mpr ⟨by simp [PyData.depth], ih⟩
    show PyData.depthAll (xs.map PyData.int) + 1 ≤ 2
    have := h2 xs
    omega
  have q1 := d2 a
  have q2 := d2 b
  rw [ha.1, hb.1, decide_eq_true (by omega)]
  rfl
theorem c_quotients {p : Int} {a b : List Int} (hp : isP p) (ha : Nrm p a) (hb : Nrm p b) (ha1 : a.length ≤ 61) (hb1 : b.length ≤ 61) (st : Sto) : callD 3 f__law_quotients_right st [.int p, P a, P b] = .ok (.bl true) st := by
  refine cd_ok (fn_ret ?_ rfl) rfl (by simp) st
  show retD (sSeq _ (sSeq _ _) [some (.int p), some (P a), some (P b)] []) = _
  obtain ⟨l1, l2, l3⟩ := quo_lens hp ha hb (by omega) (by omega)
  obtain ⟨s, f, w, e, Q⟩ := paper_ok hp ha hb l2 l3
  have e : papT p (papR p a b) = [s, f, w] := e
  have hs : s.length ≤ 400 := by
    have : s = monM p (gcdM p a b) := Q.com
    rw [this]
    have eg : (papR p a b).1 = gcdM p a b := papM_first p _ a b [1] [] [] [1]
    rw [eg] at l1
    unfold monM
    split
    · simp
    · have := scaM_len (p := p) (gcdM p a b) (invM p (lastM (gcdM p a b)))
      omega
  have cp := c_common_paper hp ha hb ha1 hb1 []
  rw [e] at cp
  have cr := c_paper_right hp ha hb ha1 hb1 Q hs []
  have s1 : sIf (eAnd (eTest (eOp neD (eVar 2) (eTup aNil))) (eTest (eOp neD (eCal 3 f_poly_division [] (aCons (eVar 0) (aCons (eVar 1) (aCons (eVar 2) aNil)))) (eCal 3 f__law_po_division [] (aCons (eVar 0) (aCons (eVar 1) (aCons (eVar 2) aNil))))))) (sRet (eC (.bl false))) sNext [some (.int p), some (P a), some (P b)] [] = .go .nx [some (.int p), some (P a), some (P b)] [] := by
    by_cases hB : b = []
    · simp [hB]
    · simp [hB, c_poly_division hp ha hb ha1 hb1 [] hB, c_po_division hp ha.lo hb hB (show a.length ≤ 900 by omega) (show b.length ≤ 900 by omega), neT2]
  rw [sv_seq, s1, sk_nx]
  simp only [List.map_cons, List.map_nil] at cp
  simp [c_common_poly hp ha hb ha1 hb1, c_po_common hp ha hb (show a.length ≤ 500 by omega) (show b.length ≤ 500 by omega), cp, cr]
end Gn
namespace Gn
open PySem PySem.Spec PyProof.Rows L2 DS Pm

/-! ### sums are right -/
theorem pow_58 : powI 10 58 = some (.int 10000000000000000000000000000000000000000000000000000000000) := by kernel_rfl
theorem pow_20 : powI 10 20 = some (.int 100000000000000000000) := by kernel_rfl
theorem pow_59 : powI 10 59 = some (.int 100000000000000000000000000000000000000000000000000000000000) := by kernel_rfl
theorem pow_60 : powI 10 60 = some (.int 1000000000000000000000000000000000000000000000000000000000000) := by kernel_rfl
theorem pow_17 : powI 10 17 = some (.int 100000000000000000) := by kernel_rfl
theorem pow_9 : powI 10 9 = some (.int 1000000000) := by kernel_rfl
theorem big_60 : (10 : Int) ^ 60 = 1000000000000000000000000000000000000000000000000000000000000 := by decide
theorem log_58 : (10000000000000000000000000000000000000000000000000000000000 : Int).natAbs.log2 < 9000 := by decide +kernel
theorem log_20 : (100000000000000000000 : Int).natAbs.log2 < 9000 := by decide +kernel
theorem log_9 : (1000000000 : Int).natAbs.log2 < 9000 := by decide +kernel
theorem u_sums {B : List D} {p : Int} {a b : List Int} (hp : isP p) (hB : IsBag B) (ha : Nrm p a) (hb : Nrm p b) (ha1 : a.length ≤ 61) (hb1 : b.length ≤ 61) : ∃ ys, f__law_sums_right [.lst B] [.hnd 0, .int p, P a, P b] = .ok (.bl true) [.lst ys] ∧ IsBag ys := by
  obtain ⟨g1, B1, e1, hB1, g1a, g1b⟩ := c_grab (st := [.lst B]) (h := 0) (t := 10000000000000000000000000000000000000000000000000000000000) rfl hB (by decide) log_58
  obtain ⟨g2, B2, e2, hB2, g2a, g2b⟩ := c_grab (st := [.lst B1]) (h := 0) (t := 100000000000000000000) rfl hB1 (by decide) log_20
  obtain ⟨x3, B3', e3, hB3, m3⟩ := c_one_of (st := [.lst B2]) (h := 0) (items := [.int 1, .int (-1), .int 0, .int 2, .int g1, .int (0 - g2)]) rfl hB2 (by simp) (by simp) (by simp)
  have ht : ∃ t : Int, x3 = .int t ∧ -(10 ^ 60) < t ∧ t < 10 ^ 60 := by
    rw [big_60]
    simp only [List.mem_cons, List.not_mem_nil, or_false] at m3
    rcases m3 with h | h | h | h | h | h
    · exact ⟨1, h, by decide, by decide⟩
    · exact ⟨-1, h, by decide, by decide⟩
    · exact ⟨0, h, by decide, by decide⟩
    · exact ⟨2, h, by decide, by decide⟩
    · exact ⟨g1, h, by omega, by omega⟩
    · exact ⟨0 - g2, h, by omega, by omega⟩
  obtain ⟨t, rfl, ht⟩ := ht
  have hlen : (0 : Int) < 1 + (60 : Int) / (1 + (a.length : Int)) := by
    have := Int.ediv_nonneg (a := 60) (b := 1 + (a.length : Int)) (by omega) (by omega)
    omega
  have hdl : divI 60 (1 + (a.length : Int)) = some (.int (60 / (1 + (a.length : Int)))) := o_div (by omega) (small_log ⟨by omega, by omega⟩)
  have hle : (60 : Int) / (1 + (a.length : Int)) ≤ 60 := Int.ediv_le_self _ (by decide)
  obtain ⟨k, B4, e4, hB4, k0, k1⟩ := c_grab (st := [.lst B3']) (h := 0) (t := 1 + 60 / (1 + (a.length : Int))) rfl hB3 hlen (small_log ⟨hlen, by omega⟩)
  obtain ⟨n, rfl⟩ : ∃ n : Nat, k = n := ⟨k.toNat, by omega⟩
  have hmul : (n : Int) * (1 + (a.length : Int)) ≤ 60 := by
    have h1 : (n : Int) ≤ 60 / (1 + (a.length : Int)) := by omega
    have h2 := Int.mul_le_mul_of_nonneg_right h1 (show (0 : Int) ≤ 1 + (a.length : Int) by omega)
    have h3 := Int.ediv_mul_le 60 (show (1 + (a.length : Int)) ≠ 0 by omega)
    omega
  have hn60 : n ≤ 60 := by omega
  have hnk : n * (a.length - 1) ≤ 60 := by
    have h1 : n * (1 + a.length) ≤ 60 := by
      have : ((n * (1 + a.length) : Nat) : Int) ≤ 60 := by push_cast; exact hmul
      omega
    have h2 : n * (a.length - 1) ≤ n * (1 + a.length) := Nat.mul_le_mul_left _ (by omega)
    omega
  obtain ⟨g5, B5, e5, hB5, g5a, g5b⟩ := c_grab (st := [.lst B4]) (h := 0) (t := 9) rfl hB4 (by decide) (small_log (by decide))
  obtain ⟨g6, B6, e6, hB6, g6a, g6b⟩ := c_grab (st := [.lst B5]) (h := 0) (t := 9) rfl hB5 (by decide) (small_log (by decide))
  obtain ⟨g7, B7, e7, hB7, g7a, g7b⟩ := c_grab (st := [.lst B6]) (h := 0) (t := 1000000000) rfl hB6 (by decide) log_9
  obtain ⟨x8, B8, e8, hB8, m8⟩ := c_one_of (st := [.lst B7]) (h := 0) (items := [.int g5, .int (0 - g6), .int (100000000000000000000000000000000000000000000000000000000000 - g7)]) rfl hB7 (by simp) (by simp) (by simp)
  have hx : ∃ x : Int, x8 = .int x ∧ -(10 ^ 60) < x ∧ x < 10 ^ 60 := by
    rw [big_60]
    simp only [List.mem_cons, List.not_mem_nil, or_false] at m8
    rcases m8 with h | h | h
    · exact ⟨g5, h, by omega, by omega⟩
    · exact ⟨0 - g6, h, by omega, by omega⟩
    · exact ⟨_, h, by omega, by omega⟩
  obtain ⟨x, rfl, hx⟩ := hx
  refine ⟨B8, fn_ret1 ?_ rfl hB8.noH, hB8⟩
  show retB (sSeq _ (sSeq _ (sSeq _ (sSeq _ (sSeq _ (sSeq _ (sSeq _ _)))))) [some (.hnd 0), some (.int p), some (P a), some (P b), none, none, none] [.lst B]) = _
  have hl6 : (6 : Nat) ≤ lineN := by decide
  have hl3 : (3 : Nat) ≤ lineN := by decide
  have ht1 : -(10 ^ 60 : Int) < 1 ∧ (1 : Int) < 10 ^ 60 := by decide
  have htm : -(10 ^ 60 : Int) < -1 ∧ (-1 : Int) < 10 ^ 60 := by decide
  have s1 : sSet 4 (eCalB 2 f__law_one_of [] (aCons (eVar 0) (aCons (eFz (fLst (aCons (eC (.int 1)) (aCons (eUn negD (eC (.int 1))) (aCons (eC (.int 0)) (aCons (eC (.int 2)) (aCons (eCalB 2 f__law_grab [] (aCons (eVar 0) (aCons (eOp (ints2 powI) (eC (.int 10)) (eC (.int 58))) aNil))) (aCons (eOp (ints2 fun i j => some (.int (i - j))) (eC (.int 0)) (eCalB 2 f__law_grab [] (aCons (eVar 0) (aCons (eOp (ints2 powI) (eC (.int 10)) (eC (.int 20))) aNil)))) aNil)))))))) aNil))) [some (.hnd 0), some (.int p), some (P a), some (P b), none, none, none] [.lst B] = .go .nx [some (.hnd 0), some (.int p), some (P a), some (P b), some (.int t), none, none] [.lst B3'] := by
    simp only [sv_set, ev_calB, ev_cons, ev_v0, ev_vs, ev_fz, ev_lst, ev_c, ev_un, o_neg, ev_op, o_ints, pow_58, pow_20, ro_some, rb_ok, ev_nil, List.append_nil, e1, e2, List.set_cons_zero, List.length_cons, List.length_nil, Nat.zero_add, Nat.reduceAdd, if_pos hl6, e3, rs_ok, List.set_cons_succ]
  rw [sv_seq, s1, sk_nx]
  have cs := fun (u v : List Int) (hu : Nrm p u) (hv : Nrm p v) (hu1 : u.length ≤ 61) (hv1 : v.length ≤ 61) (z : Int) (hz : -(10 ^ 60) < z ∧ z < 10 ^ 60) => c_poly_sum (a := u) (b := v) hp hu hv hu1 hv1 [.lst B3'] hz
  have c1 := cs a b ha hb ha1 hb1 t ht
  have c2 := cs a b ha hb ha1 hb1 1 ht1
  have c3 := cs a a ha ha ha1 ha1 (-1) htm
  have q1 := c_po_sum (p := p) (t := t) (a := a) (b := b) hp hb.lo (show a.length ≤ 500 by omega) (show b.length ≤ 500 by omega) [.lst B3']
  have q2 := c_po_sum (p := p) (t := 1) (a := a) (b := b) hp hb.lo (show a.length ≤ 500 by omega) (show b.length ≤ 500 by omega) [.lst B3']
  have c4 := c_poly_product hp ha hb ha1 hb1 [.lst B3']
  have q4 := c_po_product (p := p) (a := a) (b := b) hp ha.lo (show a.length ≤ 400 by omega) (show b.length ≤ 400 by omega) [.lst B3']
  rw [plus_self hp.pos] at c3
  rw [times_prod hp.pos] at c4
  have d1 := c_poly_power (a := a) hp ha ha1 [.lst B8] hn60 hnk
  have d2 := c_po_power (a := a) hp ha hn60 hnk ha1 [.lst B8]
  have d3 := c_poly_slope (a := a) hp ha ha1 [.lst B8]
  have d4 := c_po_slope (a := a) hp ha.lo (show a.length ≤ 500 by omega) [.lst B8]
  have d5 := c_poly_at (a := a) hp ha ha1 [.lst B8] hx
  have d6 := c_po_at (p := p) (x := x) (a := a) hp [.lst B8]
  have p0 : ∀ st, neD st (P []) (D.tup []) = some (.bl false) := fun st => by rw [o_neP0]; rfl
  simp only [sv_seq, sv_if, ev_test, ev_op, ev_calK, ev_cal, ev_cons, ev_v0, ev_vs, ev_nil, ev_c, ev_un, o_neg, rb_ok, List.length_cons, List.length_nil, Nat.zero_add, Nat.reduceAdd, and_self, if_true, List.cons_append, List.nil_append, List.append_nil, c1, c2, c3, c4, q1, q2, q4, rn_ok, o_neP, decide_true, Bool.not_true, ro_some, isB_bl, rs_ok, if_neg Bool.false_ne_true, sv_next, sk_nx, ev_or, ev_tup, Nat.zero_le, p0, sv_set, ev_calB, ev_cb, l_lenP, o_ints, o_add, hdl, e4, List.set_cons_zero, List.set_cons_succ, ev_fz, ev_lst, pow_9, pow_59, e5, e6, e7, if_pos hl3, e8, d1, d2, d3, d4, d5, d6, sv_ret, o_eqI, retB_ret]
theorem c_sums {st : Sto} {h : Nat} {B : List D} {p : Int} {a b : List Int} (hs : st[h]? = some (.lst B)) (hp : isP p) (hB : IsBag B) (ha : Nrm p a) (hb : Nrm p b) (ha1 : a.length ≤ 61) (hb1 : b.length ≤ 61) : ∃ ys, callBD 4 f__law_sums_right st [.hnd h, .int p, P a, P b] = .ok (.bl true) (st.set h (.lst ys)) ∧ IsBag ys := by
  obtain ⟨ys, e, hy⟩ := u_sums hp hB ha hb ha1 hb1
  exact ⟨ys, cb_ok hs e rfl hB.noH (by simp) rfl hy.noH, hy⟩
end Gn
namespace Gn
open PySem PySem.Spec PyProof.Rows L2 DS Pm

/-! ### values near polynomials -/
/-- both tell the same of a value -/
def Alike (p : Int) (v : D) : Prop := ∀ st : Sto, ∃ k : Bool, callD 2 f_is_poly st [.int p, v] = .ok (.bl k) st ∧ callD 2 f__law_is_poly_here st [.int p, v] = .ok (.bl k) st
theorem al_P {p : Int} (hp : isP p) {xs : List Int} (h : xs.length ≤ 1000) : Alike p (P xs) := fun st => ⟨_, c_is_poly hp h st, c_poly_here hp h st⟩
theorem al_of {p : Int} {v : D} {k : Bool} (hv : v.noH = true) (h1 : f_is_poly [] [.int p, v] = .ok (.bl k) []) (h2 : f__law_is_poly_here [] [.int p, v] = .ok (.bl k) []) : Alike p v := fun st =>
  ⟨k, cd_ok h1 rfl (by simp [hv]) st, cd_ok h2 rfl (by simp [hv]) st⟩
theorem al_non {p : Int} (hp : isP p) : Alike p .non := by
  rcases hp with rfl | rfl | rfl | rfl <;> exact al_of (k := false) rfl (by kernel_rfl) (by kernel_rfl)
theorem al_5 {p : Int} (hp : isP p) : Alike p (.int 5) := by
  rcases hp with rfl | rfl | rfl | rfl <;> exact al_of (k := false) rfl (by kernel_rfl) (by kernel_rfl)
theorem al_s {p : Int} (hp : isP p) : Alike p (.str "1") := by
  rcases hp with rfl | rfl | rfl | rfl <;> exact al_of (k := false) rfl (by kernel_rfl) (by kernel_rfl)
theorem al_t {p : Int} (hp : isP p) : Alike p (.tup [.bl true]) := by
  rcases hp with rfl | rfl | rfl | rfl <;> exact al_of (k := false) rfl (by kernel_rfl) (by kernel_rfl)
theorem al_tn {p : Int} (hp : isP p) : Alike p (.tup [.int 1, .non]) := by
  rcases hp with rfl | rfl | rfl | rfl <;> exact al_of (k := false) rfl (by kernel_rfl) (by kernel_rfl)
theorem al_d {p : Int} (hp : isP p) : Alike p (.dic []) := by
  rcases hp with rfl | rfl | rfl | rfl <;> exact al_of (k := false) rfl (by kernel_rfl) (by kernel_rfl)
theorem al_tt {p : Int} (hp : isP p) : Alike p (.tup [.tup [.int 1]]) := by
  rcases hp with rfl | rfl | rfl | rfl <;> exact al_of (k := false) rfl (by kernel_rfl) (by kernel_rfl)
theorem kit_lt : kitB "list" "tuple" = some false := by decide +kernel
theorem al_L {p : Int} (hp : isP p) (xs : List Int) : Alike p (.lst (xs.map D.int)) := by
  intro st
  have i1 : isiD [] [.lst (xs.map D.int), .ty "tuple"] = some (.bl false) := by
    show (kitB "list" "tuple").map D.bl = _
    rw [kit_lt]; rfl
  have h0 : callD 2 f_is_poly_any [] [.int p, .lst (xs.map D.int)] = .ok (.bl false) [] := by
    refine cd_ok (fn_ret ?_ rfl) rfl (by simp) []
    show retD (sSeq (sIf (eOr (eNot (eTest (eCB isiD (aCons (eVar 1) (aCons (eC (.ty "tuple")) aNil))))) _) _ _) _ [some (.int p), some (.lst (xs.map D.int)), none] []) = _
    simp only [sv_seq, sv_if, ev_or, ev_not, ev_test, ev_cb, ev_cons, ev_vs, ev_v0, ev_c, ev_nil, rb_ok, i1, ro_some, isB_bl, Bool.not_false, if_true, rs_ok, sv_ret, sk_ret, retD_ret]
  refine ⟨false, ?_, ?_⟩
  · refine cd_ok (fn_ret ?_ rfl) rfl (by simp) st
    show retD (sSeq _ (sRet (eAndV _ _)) [some (.int p), some (.lst (xs.map D.int))] []) = _
    have e1 : eCal 2 f_is_poly_any [] (aCons (eVar 0) (aCons (eVar 1) aNil)) [some (.int p), some (.lst (xs.map D.int))] [] = .ok (.bl false) [] := by simp only [ev_cal, ev_cons, ev_v0, ev_vs, ev_nil, rb_ok, List.append_nil, h0]
    simp only [sv_seq, sv_drop]
    rw [show eCal 1 f_require_prime [] (aCons (eVar 0) aNil) [some (.int p), some (.lst (xs.map D.int))] [] = .ok .non [] by simp only [ev_cal, ev_cons, ev_v0, ev_nil, rb_ok, List.append_nil, c_req_prime hp]]
    rw [rs_ok, sk_nx, sv_ret, ev_andV' e1]
    rfl
  · refine cd_ok (fn_ret ?_ rfl) rfl (by simp) st
    show retD (sSeq (sIf (eOr (eNot (eTest (eCB isiD (aCons (eVar 1) (aCons (eC (.ty "tuple")) aNil))))) _) _ _) _ [some (.int p), some (.lst (xs.map D.int)), none] []) = _
    simp only [sv_seq, sv_if, ev_or, ev_not, ev_test, ev_cb, ev_cons, ev_vs, ev_v0, ev_c, ev_nil, rb_ok, i1, ro_some, isB_bl, Bool.not_false, if_true, rs_ok, sv_ret, sk_ret, retD_ret]
/-! ### one cell is right -/
theorem ones_at (k : Nat) (h : 2 ≤ k ∧ k ≤ 1000) (st : Sto) : mulD st (.tup [.int 1]) (.int k) = some (P (List.replicate k 1)) := by
  show (repT st (.tup [.int 1]) (.int k)) = _
  have hk : (k : Int).toNat = k := Int.toNat_natCast k
  show (if ([D.int 1] : List D) ≠ [] ∧ 2 ≤ (k : Int) ∧ (k : Int) ≤ 1000 ∧ ([D.int 1] : List D).length ≤ 1000 then some (D.tup (List.replicate (k : Int).toNat [D.int 1]).flatten) else none) = _
  rw [if_pos ⟨by simp, by omega, by omega, by simp⟩, hk]
  have : ∀ k : Nat, (List.replicate k [D.int 1]).flatten = (List.replicate k (1 : Int)).map D.int := by
    intro k
    induction k with
    | zero => rfl
    | succ k ih => rw [List.replicate_succ, List.flatten_cons, ih, List.replicate_succ]; rfl
  rw [this]
  rfl
theorem cat1 {a : List Int} {x : Int} (h : a.length ≤ 1000) (st : Sto) : addD st (P a) (.tup [.int x]) = some (P (a ++ [x])) := by
  have e : D.tup [D.int x] = P [x] := rfl
  rw [e]
  exact o_cat (by simp; unfold lineN; omega)
theorem u_right {B : List D} (hB : IsBag B) : ∃ ys, f__law_right [.lst B] [.hnd 0] = .ok (.bl true) [.lst ys] ∧ IsBag ys := by
  obtain ⟨x1, B1, e1, hB1, m1⟩ := c_one_of (st := [.lst B]) (h := 0) (items := [.int 2, .int 3, .int 5, .int 7, .int 2, .int 3]) rfl hB (by simp) (by simp) rfl
  have hp' : ∃ p : Int, x1 = .int p ∧ isP p := by
    simp only [List.mem_cons, List.not_mem_nil, or_false] at m1
    rcases m1 with h | h | h | h | h | h
    · exact ⟨2, h, .inl rfl⟩
    · exact ⟨3, h, .inr (.inl rfl)⟩
    · exact ⟨5, h, .inr (.inr (.inl rfl))⟩
    · exact ⟨7, h, .inr (.inr (.inr rfl))⟩
    · exact ⟨2, h, .inl rfl⟩
    · exact ⟨3, h, .inr (.inl rfl)⟩
  obtain ⟨p, rfl, hp⟩ := hp'
  obtain ⟨x2, B2, e2, hB2, m2⟩ := c_one_of (st := [.lst B1]) (h := 0) (items := [.int 2, .int 3, .int 6, .int 12, .int 12, .int 60]) rfl hB1 (by simp) (by simp) rfl
  have hm' : ∃ m : Int, x2 = .int m ∧ 0 ≤ m ∧ m ≤ 60 := by
    simp only [List.mem_cons, List.not_mem_nil, or_false] at m2
    rcases m2 with h | h | h | h | h | h
    · exact ⟨2, h, by omega, by omega⟩
    · exact ⟨3, h, by omega, by omega⟩
    · exact ⟨6, h, by omega, by omega⟩
    · exact ⟨12, h, by omega, by omega⟩
    · exact ⟨12, h, by omega, by omega⟩
    · exact ⟨60, h, by omega, by omega⟩
  obtain ⟨m, rfl, hm⟩ := hm'
  obtain ⟨a, B3', e3, hB3, na, la⟩ := c_drawn (st := [.lst B2]) (h := 0) rfl hp hB2 hm
  obtain ⟨b, B4, e4, hB4, nb, lb⟩ := c_drawn (st := [.lst B3']) (h := 0) rfl hp hB3 hm
  obtain ⟨c, B5, e5, hB5, nc, lc⟩ := c_drawn (st := [.lst B4]) (h := 0) (m := 3) rfl hp hB4 (by omega)
  have ha1 : a.length ≤ 61 := by omega
  have hb1 : b.length ≤ 61 := by omega
  have hc1 : c.length ≤ 4 := by omega
  obtain ⟨B6, e6, hB6⟩ := c_sums (st := [.lst B5]) (h := 0) rfl hp hB5 na nb ha1 hb1
  have hl6 : (6 : Nat) ≤ lineN := by decide
  refine ⟨B6, fn_ret1 ?_ rfl hB6.noH, hB6⟩
  show retB (sSeq _ (sSeq _ (sSeq _ (sSeq _ (sSeq _ (sSeq _ (sSeq _ (sSeq _ (sSeq _ _)))))))) [some (.hnd 0), none, none, none, none, none, none, none, none, none] [.lst B]) = _
  have s1 : sSet 1 (eCalB 2 f__law_one_of [] (aCons (eVar 0) (aCons (eFz (fLst (aCons (eC (.int 2)) (aCons (eC (.int 3)) (aCons (eC (.int 5)) (aCons (eC (.int 7)) (aCons (eC (.int 2)) (aCons (eC (.int 3)) aNil)))))))) aNil))) [some (.hnd 0), none, none, none, none, none, none, none, none, none] [.lst B] = .go .nx [some (.hnd 0), some (.int p), none, none, none, none, none, none, none, none] [.lst B1] := by
    simp only [sv_set, ev_calB, ev_cons, ev_v0, ev_vs, ev_fz, ev_lst, ev_c, rb_ok, ev_nil, List.append_nil, List.length_cons, List.length_nil, Nat.zero_add, Nat.reduceAdd, if_pos hl6, e1, rs_ok, List.set_cons_zero, List.set_cons_succ]
  have s2 : sSet 2 (eCalB 2 f__law_one_of [] (aCons (eVar 0) (aCons (eFz (fLst (aCons (eC (.int 2)) (aCons (eC (.int 3)) (aCons (eC (.int 6)) (aCons (eC (.int 12)) (aCons (eC (.int 12)) (aCons (eC (.int 60)) aNil)))))))) aNil))) [some (.hnd 0), some (.int p), none, none, none, none, none, none, none, none] [.lst B1] = .go .nx [some (.hnd 0), some (.int p), some (.int m), none, none, none, none, none, none, none] [.lst B2] := by
    simp only [sv_set, ev_calB, ev_cons, ev_v0, ev_vs, ev_fz, ev_lst, ev_c, rb_ok, ev_nil, List.append_nil, List.length_cons, List.length_nil, Nat.zero_add, Nat.reduceAdd, if_pos hl6, e2, rs_ok, List.set_cons_zero, List.set_cons_succ]
  have s3 : sPar2 6 7 (aCons (eCalB 3 f__law_poly_drawn [] (aCons (eVar 0) (aCons (eVar 1) (aCons (eVar 2) aNil)))) (aCons (eCalB 3 f__law_poly_drawn [] (aCons (eVar 0) (aCons (eVar 1) (aCons (eVar 2) aNil)))) aNil)) [some (.hnd 0), some (.int p), some (.int m), none, none, none, none, none, none, none] [.lst B2] = .go .nx [some (.hnd 0), some (.int p), some (.int m), none, none, none, some (P a), some (P b), none, none] [.lst B4] := by
    rw [sv_par2 (x := P a) (y := P b) (st1 := [.lst B4])]
    · rfl
    · simp only [ev_calB, ev_cons, ev_v0, ev_vs, rb_ok, ev_nil, List.append_nil, e3, e4, List.set_cons_zero]
  have s4 : sSet 3 (eCalB 3 f__law_poly_drawn [] (aCons (eVar 0) (aCons (eVar 1) (aCons (eC (.int 3)) aNil)))) [some (.hnd 0), some (.int p), some (.int m), none, none, none, some (P a), some (P b), none, none] [.lst B4] = .go .nx [some (.hnd 0), some (.int p), some (.int m), some (P c), none, none, some (P a), some (P b), none, none] [.lst B5] := by
    simp only [sv_set, ev_calB, ev_cons, ev_v0, ev_vs, ev_c, rb_ok, ev_nil, List.append_nil, e5, rs_ok, List.set_cons_zero, List.set_cons_succ]
  have cq := c_quotients hp na nb ha1 hb1 [.lst B6]
  have s5 : sIf (eOr (eNot (eTest (eCalB 4 f__law_sums_right [] (aCons (eVar 0) (aCons (eVar 1) (aCons (eVar 6) (aCons (eVar 7) aNil))))))) (eNot (eTest (eCal 3 f__law_quotients_right [] (aCons (eVar 1) (aCons (eVar 6) (aCons (eVar 7) aNil))))))) (sRet (eC (.bl false))) sNext [some (.hnd 0), some (.int p), some (.int m), some (P c), none, none, some (P a), some (P b), none, none] [.lst B5] = .go .nx [some (.hnd 0), some (.int p), some (.int m), some (P c), none, none, some (P a), some (P b), none, none] [.lst B6] := by
    simp only [sv_if, ev_or, ev_not, ev_test, ev_calB, ev_cal, ev_cons, ev_v0, ev_vs, rb_ok, ev_nil, List.append_nil, e6, List.set_cons_zero, isB_bl, ro_some, Bool.not_true, if_neg Bool.false_ne_true, cq, rs_ok, sv_next]
  have wl : ∀ x : List Int, x.length ≤ 61 → (prodM p x c).length ≤ 64 := by
    intro x hx
    rw [← times_prod hp.pos]
    have := timesM_len (p := p) x c
    omega
  have q1 : q__law_right_1 [some (.hnd 0), some (.int p), some (.int m), some (P c), none, none, some (P a), some (P b), none, none] [.lst B6] = .ok [P (prodM p a c), P (prodM p b c)] [.lst B6] := by
    refine (lc_map (fg := gNameD 8) (fe := e__law_right_1) (vs := [8]) (wk_seq (f := eTup (aCons (eVar 6) (aCons (eVar 7) aNil))) (d := .tup [P a, P b]) (sd := [some (.hnd 0), some (.int p), some (.int m), some (P c), none, none, some (P a), some (P b), none, none]) (st := [.lst B6]) (st' := [.lst B6]) (by simp [lineN]) rfl) (by simp [lineN]) (fun d => P (prodM p (dP d) c)) fun i x hx => ?_).trans ?_
    · refine ⟨[some (.hnd 0), some (.int p), some (.int m), some (P c), none, none, some (P a), some (P b), some x, none], by simp [wipeD], ?_⟩
      show eCal _ _ _ _ _ _ = _
      match i, hx with
      | 0, hx => cases hx; simp [c_po_product hp na.lo (show a.length ≤ 400 by omega) (show c.length ≤ 400 by omega)]
      | 1, hx => cases hx; simp [c_po_product hp nb.lo (show b.length ≤ 400 by omega) (show c.length ≤ 400 by omega)]
      | n + 2, hx => cases hx
    · simp
  have q2 : q__law_right_2 [some (.hnd 0), some (.int p), some (.int m), some (P c), some (.lst [P (prodM p a c), P (prodM p b c)]), none, some (P a), some (P b), none, none] [.lst B6] = .ok [.int (prodM p a c).length, .int (prodM p b c).length] [.lst B6] := by
    refine (lc_map (fg := gNameD 8) (fe := e__law_right_2) (vs := [8]) (wk_seq (f := eVar 4) (d := .lst [P (prodM p a c), P (prodM p b c)]) (sd := [some (.hnd 0), some (.int p), some (.int m), some (P c), some (.lst [P (prodM p a c), P (prodM p b c)]), none, some (P a), some (P b), none, none]) (st := [.lst B6]) (st' := [.lst B6]) rfl rfl) (by simp [lineN]) (fun d => .int (dP d).length) fun i x hx => ?_).trans ?_
    · refine ⟨[some (.hnd 0), some (.int p), some (.int m), some (P c), some (.lst [P (prodM p a c), P (prodM p b c)]), none, some (P a), some (P b), some x, none], by simp [wipeD], ?_⟩
      show eCB _ _ _ _ = _
      match i, hx with
      | 0, hx => cases hx; simp
      | 1, hx => cases hx; simp
      | n + 2, hx => cases hx
    · simp
  have mx : ∀ st : Sto, onI (fun ns => (maxI ns).map .int) st [.lst [.int (prodM p a c).length, .int (prodM p b c).length]] = some (.int ((max (prodM p a c).length (prodM p b c).length : Nat) : Int)) := by
    intro st
    show some (D.int (if ((prodM p a c).length : Int) < (prodM p b c).length then ((prodM p b c).length : Int) else (prodM p a c).length)) = _
    congr 2
    split <;> omega
  have x0 : L2.atI [P (prodM p a c), P (prodM p b c)] 0 = some (P (prodM p a c)) := id rfl
  have x1 : L2.atI [P (prodM p a c), P (prodM p b c)] 1 = some (P (prodM p b c)) := id rfl
  have s7 : sIf (eAnd (eTest (eOp (ints2 fun i j => some (.bl (decide (i < j)))) (eCB (onI fun ns => (maxI ns).map .int) (aCons (eFz q__law_right_2) aNil)) (eC (.int 62)))) (eNot (eTest (eCal 3 f__law_quotients_right [] (aCons (eVar 1) (aCons (eOp ixD (eVar 4) (eC (.int 0))) (aCons (eOp ixD (eVar 4) (eC (.int 1))) aNil))))))) (sRet (eC (.bl false))) sNext [some (.hnd 0), some (.int p), some (.int m), some (P c), some (.lst [P (prodM p a c), P (prodM p b c)]), none, some (P a), some (P b), none, none] [.lst B6] = .go .nx [some (.hnd 0), some (.int p), some (.int m), some (P c), some (.lst [P (prodM p a c), P (prodM p b c)]), none, some (P a), some (P b), none, none] [.lst B6] := by
    by_cases h : ((max (prodM p a c).length (prodM p b c).length : Nat) : Int) < 62
    · have cw := c_quotients hp (prodM_ok hp.pos a c) (prodM_ok hp.pos b c) (show (prodM p a c).length ≤ 61 by omega) (show (prodM p b c).length ≤ 61 by omega) [.lst B6]
      simp only [sv_if, ev_and, ev_not, ev_test, ev_op, ev_cb, ev_cal, ev_cons, ev_fz, q2, ev_v0, ev_vs, rb_ok, ev_nil, ev_c, List.append_nil, mx, o_ints, h, decide_true, ro_some, isB_bl, if_true, x_L, x0, x1, cw, Bool.not_true, rs_ok, if_neg Bool.false_ne_true, sv_next]
    · simp only [sv_if, ev_and, ev_not, ev_test, ev_op, ev_cb, ev_cal, ev_cons, ev_fz, q2, ev_v0, ev_vs, rb_ok, ev_nil, ev_c, List.append_nil, mx, o_ints, h, decide_false, ro_some, isB_bl, rs_ok, if_neg Bool.false_ne_true, sv_next]
  obtain ⟨S1, hS1⟩ : ∃ S1 : List D, S1 = [P a, .lst (a.map D.int), P (a ++ [0]), P (cutG a none (some (-1)) ++ [p]), P (List.replicate 61 1), P (List.replicate 62 1), .non, P [], .int 5, .str "1", .tup [.bl true], .tup [.int 1, .non], P (a ++ [-1]), .dic []] := ⟨_, rfl⟩
  have hcut : (cutG a none (some (-1))).length ≤ 61 := by
    unfold cutG
    rw [List.length_take, List.length_drop]
    omega
  have ct : eCutT (eVar 6) oNo (oAt (eUn negD (eC (.int 1)))) [some (.hnd 0), some (.int p), some (.int m), some (P c), some (.lst [P (prodM p a c), P (prodM p b c)]), none, some (P a), some (P b), none, none] [.lst B6] = .ok (P (cutG a none (some (-1)))) [.lst B6] := o_cutT (xs := a) rfl rfl rfl
  have m61 := ones_at 61 (by omega) [.lst B6]
  have m62 := ones_at 62 (by omega) [.lst B6]
  have k0 := cat1 (a := a) (x := 0) (by omega) [.lst B6]
  have kp := cat1 (a := cutG a none (some (-1))) (x := p) (by omega) [.lst B6]
  have kn := cat1 (a := a) (x := -1) (by omega) [.lst B6]
  have k1 := cat1 (a := a) (x := 1) (by omega) [.lst B6]
  have l0 : (0 : Nat) ≤ lineN := by decide
  have l1 : (1 : Nat) ≤ lineN := by decide
  have l2 : (2 : Nat) ≤ lineN := by decide
  have l14 : (14 : Nat) ≤ lineN := by decide
  have ed0 : ∀ sd st, eDict0 sd st = .ok (.dic []) st := fun _ _ => rfl
  have s8 : sSet 5 (eFz (fLst (aCons (eVar 6) (aCons (eFz (fCB listD (aCons (eVar 6) aNil))) (aCons (eOp addD (eVar 6) (eTup (aCons (eC (.int 0)) aNil))) (aCons (eOp addD (eCutT (eVar 6) oNo (oAt (eUn negD (eC (.int 1))))) (eTup (aCons (eVar 1) aNil))) (aCons (eOp mulD (eTup (aCons (eC (.int 1)) aNil)) (eC (.int 61))) (aCons (eOp mulD (eTup (aCons (eC (.int 1)) aNil)) (eC (.int 62))) (aCons (eC .non) (aCons (eTup aNil) (aCons (eC (.int 5)) (aCons (eC (.str "1")) (aCons (eTup (aCons (eC (.bl true)) aNil)) (aCons (eTup (aCons (eC (.int 1)) (aCons (eC .non) aNil))) (aCons (eOp addD (eVar 6) (eTup (aCons (eUn negD (eC (.int 1))) aNil))) (aCons eDict0 aNil)))))))))))))))) [some (.hnd 0), some (.int p), some (.int m), some (P c), some (.lst [P (prodM p a c), P (prodM p b c)]), none, some (P a), some (P b), none, none] [.lst B6] = .go .nx [some (.hnd 0), some (.int p), some (.int m), some (P c), some (.lst [P (prodM p a c), P (prodM p b c)]), some (.lst S1), some (P a), some (P b), none, none] [.lst B6] := by
    have m61' : mulD [.lst B6] (.tup [.int 1]) (.int 61) = some (P (List.replicate 61 1)) := m61
    have m62' : mulD [.lst B6] (.tup [.int 1]) (.int 62) = some (P (List.replicate 62 1)) := m62
    rw [hS1]
    simp only [sv_set, ev_fz, ev_lst, ev_cons, ev_fcb, ev_tup, ev_op, ct, ev_un, o_neg, ev_v0, ev_vs, ev_c, ev_nil, rb_ok, l_P, ro_some, List.length_cons, List.length_nil, Nat.zero_add, Nat.reduceAdd, if_pos l0, if_pos l1, if_pos l2, if_pos l14, k0, kp, kn, m61', m62', ed0, rs_ok, List.set_cons_zero, List.set_cons_succ, P_nil]
  obtain ⟨S2, hS2⟩ : ∃ S2 : List D, S2 = [P [0], P [0, 0], P (a ++ [1]), P [p - 1], .tup [.tup [.int 1]], P b.reverse] := ⟨_, rfl⟩
  have p00 : D.tup [D.int 0] = P [0] := id rfl
  have p000 : D.tup [D.int 0, D.int 0] = P [0, 0] := id rfl
  have pp1 : D.tup [D.int (p - 1)] = P [p - 1] := id rfl
  have rv : ∀ sd, (eVar 7 sd [.lst B6] = .ok (P b) [.lst B6]) → eRevT (eVar 7) sd [.lst B6] = .ok (P b.reverse) [.lst B6] := fun sd h => rev_P h
  have cat : fCat [.lst B6] (.lst S1) (.lst S2) = some (S1 ++ S2) := by
    show (if S1.length + S2.length ≤ lineN then some (S1 ++ S2) else none) = _
    rw [if_pos (by rw [hS1, hS2]; show 14 + 6 ≤ lineN; decide)]
  have s9 : sSet 5 (eFz (fOp fCat (eVar 5) (eFz (fLst (aCons (eTup (aCons (eC (.int 0)) aNil)) (aCons (eTup (aCons (eC (.int 0)) (aCons (eC (.int 0)) aNil))) (aCons (eOp addD (eVar 6) (eTup (aCons (eC (.int 1)) aNil))) (aCons (eTup (aCons (eOp (ints2 fun i j => some (.int (i - j))) (eVar 1) (eC (.int 1))) aNil)) (aCons (eTup (aCons (eTup (aCons (eC (.int 1)) aNil)) aNil)) (aCons (eRevT (eVar 7)) aNil)))))))))) [some (.hnd 0), some (.int p), some (.int m), some (P c), some (.lst [P (prodM p a c), P (prodM p b c)]), some (.lst S1), some (P a), some (P b), none, none] [.lst B6] = .go .nx [some (.hnd 0), some (.int p), some (.int m), some (P c), some (.lst [P (prodM p a c), P (prodM p b c)]), some (.lst (S1 ++ S2)), some (P a), some (P b), none, none] [.lst B6] := by
    have rv' := rv [some (.hnd 0), some (.int p), some (.int m), some (P c), some (.lst [P (prodM p a c), P (prodM p b c)]), some (.lst S1), some (P a), some (P b), none, none] rfl
    have e : fLst (aCons (eTup (aCons (eC (.int 0)) aNil)) (aCons (eTup (aCons (eC (.int 0)) (aCons (eC (.int 0)) aNil))) (aCons (eOp addD (eVar 6) (eTup (aCons (eC (.int 1)) aNil))) (aCons (eTup (aCons (eOp (ints2 fun i j => some (.int (i - j))) (eVar 1) (eC (.int 1))) aNil)) (aCons (eTup (aCons (eTup (aCons (eC (.int 1)) aNil)) aNil)) (aCons (eRevT (eVar 7)) aNil)))))) [some (.hnd 0), some (.int p), some (.int m), some (P c), some (.lst [P (prodM p a c), P (prodM p b c)]), some (.lst S1), some (P a), some (P b), none, none] [.lst B6] = .ok S2 [.lst B6] := by
      rw [hS2]
      simp only [ev_lst, ev_cons, ev_tup, ev_op, rv', ev_v0, ev_vs, ev_c, ev_nil, rb_ok, ro_some, o_ints, List.length_cons, List.length_nil, Nat.zero_add, Nat.reduceAdd, if_pos l1, if_pos l2, if_pos hl6, k1, p00, p000, pp1]
    simp only [sv_set, ev_fz, ev_fop, ev_v0, ev_vs, rb_ok, e, cat, ro_some, rs_ok, List.set_cons_zero, List.set_cons_succ]
  have all : ∀ v ∈ S1 ++ S2, Alike p v := by
    intro v hv
    rw [hS1, hS2] at hv
    simp only [List.cons_append, List.nil_append, List.mem_cons, List.not_mem_nil, or_false] at hv
    rcases hv with h | h | h | h | h | h | h | h | h | h | h | h | h | h | h | h | h | h | h | h
    · rw [h]; exact al_P hp (by omega)
    · rw [h]; exact al_L hp a
    · rw [h]; exact al_P hp (by simp; omega)
    · rw [h]; exact al_P hp (by simp; omega)
    · rw [h]; exact al_P hp (by rw [List.length_replicate]; omega)
    · rw [h]; exact al_P hp (by rw [List.length_replicate]; omega)
    · rw [h]; exact al_non hp
    · rw [h]; exact al_P hp (by simp)
    · rw [h]; exact al_5 hp
    · rw [h]; exact al_s hp
    · rw [h]; exact al_t hp
    · rw [h]; exact al_tn hp
    · rw [h]; exact al_P hp (by simp; omega)
    · rw [h]; exact al_d hp
    · rw [h]; exact al_P hp (by simp)
    · rw [h]; exact al_P hp (by simp)
    · rw [h]; exact al_P hp (by simp; omega)
    · rw [h]; exact al_P hp (by simp)
    · rw [h]; exact al_tt hp
    · rw [h]; exact al_P hp (by simp; omega)
  have hlen : (S1 ++ S2).length = 20 := by rw [hS1, hS2]; rfl
  have q3 : q__law_right_3 [some (.hnd 0), some (.int p), some (.int m), some (P c), some (.lst [P (prodM p a c), P (prodM p b c)]), some (.lst (S1 ++ S2)), some (P a), some (P b), none, none] [.lst B6] = .ok [] [.lst B6] := by
    refine (lc_pure (fg := gNameD 9) (ft := t__law_right_1) (fe := e__law_right_3) (vs := [9]) (wk_seq (f := eVar 5) (d := .lst (S1 ++ S2)) (sd := [some (.hnd 0), some (.int p), some (.int m), some (P c), some (.lst [P (prodM p a c), P (prodM p b c)]), some (.lst (S1 ++ S2)), some (P a), some (P b), none, none]) (st := [.lst B6]) (st' := [.lst B6]) rfl rfl) (by rw [hlen]; decide) (fun _ => none) fun i x hx => ?_).trans ?_
    · refine ⟨[some (.hnd 0), some (.int p), some (.int m), some (P c), some (.lst [P (prodM p a c), P (prodM p b c)]), some (.lst (S1 ++ S2)), some (P a), some (P b), none, some x], by simp [wipeD], .inr ⟨?_, rfl⟩⟩
      obtain ⟨k, h1, h2⟩ := all x (List.mem_of_getElem? hx) [.lst B6]
      have hs : ∀ st : Sto, reprD st [.bl k] = some (.str (if k then "True" else "False")) := fun st => rfl
      have ns : neD [.lst B6] (.str (if k then "True" else "False")) (.str (if k then "True" else "False")) = some (.bl false) := by
        cases k <;> kernel_rfl
      show eTest _ _ _ = _
      simp only [ev_test, ev_op, ev_cb, ev_cal, ev_cons, ev_v0, ev_vs, rb_ok, ev_nil, List.append_nil, h1, h2, hs, ro_some, ns, isB_bl]
    · simp
  have e1' : eqD [.lst B6] (.lst []) (.lst []) = some (.bl true) := rfl
  have s6 : sSet 4 (eFz q__law_right_1) [some (.hnd 0), some (.int p), some (.int m), some (P c), none, none, some (P a), some (P b), none, none] [.lst B6] = .go .nx [some (.hnd 0), some (.int p), some (.int m), some (P c), some (.lst [P (prodM p a c), P (prodM p b c)]), none, some (P a), some (P b), none, none] [.lst B6] := by
    simp only [sv_set, ev_fz, q1, rb_ok, rs_ok, List.set_cons_zero, List.set_cons_succ]
  rw [sv_seq, s1, sk_nx, sv_seq, s2, sk_nx, sv_seq, s3, sk_nx, sv_seq, s4, sk_nx, sv_seq, s5, sk_nx, sv_seq, s6, sk_nx, sv_seq, s7, sk_nx, sv_seq, s8, sk_nx, sv_seq, s9, sk_nx]
  simp only [sv_ret, ev_op, ev_fz, q3, rb_ok, ev_lst, ev_nil, List.length_nil, if_pos l0, e1', ro_some, rs_ok, retB_ret]
theorem c_right {st : Sto} {h : Nat} {B : List D} (hs : st[h]? = some (.lst B)) (hB : IsBag B) : ∃ ys, callBD 1 f__law_right st [.hnd h] = .ok (.bl true) (st.set h (.lst ys)) ∧ IsBag ys := by
  obtain ⟨ys, e, hy⟩ := u_right hB
  exact ⟨ys, cb_ok hs e rfl hB.noH rfl rfl hy.noH, hy⟩
end Gn
namespace Gn
open PySem PySem.Spec PyProof.Rows L2 DS Pm

/-! ### the law -/
def retL : SR → Option (List D)
  | .go (.ret (.hnd k)) _ st => cellAt st k
  | _ => none
theorem fnL_ret {nl : Nat} {body : SS} {ds xs : List D} (h : retL (body (ds.map some ++ List.replicate nl none) []) = some xs) (hn : D.noHs xs = true) : fnL nl body [] ds = .ok xs [] := by
  unfold fnL
  cases q : body (ds.map some ++ List.replicate nl none) [] with
  | go fl sd st' =>
    rw [q] at h
    cases fl with
    | ret d =>
      cases d with
      | hnd k =>
        show finL 0 k st' = _
        unfold finL
        have h : cellAt st' k = some xs := h
        rw [h]
        show (if decide (0 ≤ k) && (D.noHs xs && allNo ((st' : Sto).take 0)) then Res.ok xs ((st' : Sto).take 0) else Res.stk) = _
        rw [hn, decide_eq_true (Nat.zero_le k)]
        rfl
      | _ => cases h
    | nx => cases h
    | brk => cases h
    | cnt => cases h
  | ex c sd st' => rw [q] at h; cases h
  | stk => rw [q] at h; cases h
theorem cl_ok {n : Nat} {ff : FL} {ds xs : List D} (h : ff [] ds = .ok xs []) (hl : ds.length = n) (hn : D.noHs ds = true) (st : Sto) : callLD n ff st ds = .ok xs st := by
  unfold callLD
  rw [if_pos hl, if_pos hn, h]
  rfl
theorem mul_big : ∀ st : Sto, mulD st (.int 100000000000000000000000000000000000000000000000000000000000) (.int 1000000000000000000000000000000000000000000000000000000000000) = some (.int 100000000000000000000000000000000000000000000000000000000000000000000000000000000000000000000000000000000000000000000000) := fun st => by
  show (mulI _ _).or _ = _
  have : mulI 100000000000000000000000000000000000000000000000000000000000 1000000000000000000000000000000000000000000000000000000000000 = some (.int 100000000000000000000000000000000000000000000000000000000000000000000000000000000000000000000000000000000000000000000000) := by kernel_rfl
  rw [this]; rfl
theorem c_bag {ns : List Int} {k : Nat} (st : Sto) : ∃ xs, callLD 2 f__law_bag st [.scr (ns.map D.int), .int k] = .ok xs st ∧ IsBag xs := by
  have s83 : small64 83 = true := by decide
  have s127 : small64 127 = true := by decide
  have s1009 : small64 1009 = true := by decide
  have s47 : small64 47 = true := by decide
  have m0 : (0 : Int) < 100000000000000000000000000000000000000000000000000000000000000000000000000000000000000000000000000000000000000000000000 := by decide
  have m1 : (0 : Int) < 1152921504606846883 := by decide
  have m2 : (0 : Int) < 2305843009213693951 := by decide
  have l3 : (3 : Nat) ≤ lineN := by decide
  have cell : ∃ c : Int, eIf (eTest (eOp (ints2 fun i j => some (.bl (decide (i < j)))) (eVar 1) (eCB lenD (aCons (eVar 0) aNil)))) (eOp ixD (eVar 0) (eVar 1)) (eOp addD (eOp mulD (eC (.int 127)) (eVar 1)) (eC (.int 61))) [some (.scr (ns.map D.int)), some (.int k), none, none, none] [] = .ok (.int c) [] := by
    by_cases h : k < ns.length
    · have ha : L2.atI (ns.map D.int) (k : Int) = some (.int ns[k]) := by rw [atI_map, atI_lt h rfl]; rfl
      have hk : (k : Int) < (ns.length : Int) := by omega
      exact ⟨ns[k], by simp only [ev_if, ev_test, ev_op, ev_cb, ev_cons, ev_v0, ev_vs, ev_nil, rb_ok, l_lenS, List.length_map, ro_some, o_ints, hk, decide_true, isB_bl, if_true, x_S, ha]⟩
    · have hk : ¬ (k : Int) < (ns.length : Int) := by omega
      exact ⟨127 * k + 61, by simp only [ev_if, ev_test, ev_op, ev_cb, ev_cons, ev_v0, ev_vs, ev_nil, ev_c, rb_ok, l_lenS, List.length_map, ro_some, o_ints, hk, decide_false, isB_bl, if_neg Bool.false_ne_true, o_mul (.inl s127), o_add]⟩
  obtain ⟨c, hc⟩ := cell
  have ab : ∀ st : Sto, absD st [.int c] = some (.int (if c < 0 then -c else c)) := fun _ => rfl
  have mx : ∀ (st : Sto) (x : Int), ∃ y, max2D st [.int 0, .int x] = some (.int y) := fun st x => ⟨_, rfl⟩
  obtain ⟨y, hy⟩ := mx [] ((if c < 0 then -c else c) % 100000000000000000000000000000000000000000000000000000000000000000000000000000000000000000000000000000000000000000000000 - 100000000000000000)
  refine ⟨_, cl_ok (fnL_ret (xs := B3 y (((if c < 0 then -c else c) % 100000000000000000000000000000000000000000000000000000000000000000000000000000000000000000000000000000000000000000000000 % 1152921504606846883 * 83 + 1009 * k + 47 * (if decide (c < 0) = true then 1 else 0) + 29) % 2305843009213693951) 0) ?_ rfl) rfl (by simp) st, ⟨_, _, _, rfl⟩⟩
  show retL (sSeq (sSet 2 _) (sSeq _ (sSeq _ _)) [some (.scr (ns.map D.int)), some (.int k), none, none, none] []) = _
  simp only [sv_seq, sv_set, hc, rs_ok, sk_nx, List.set_cons_zero, List.set_cons_succ, ev_op, ev_cb, ev_cons, ev_v0, ev_vs, ev_nil, ev_c, rb_ok, ab, ro_some, i_int, i_bl, o_ints, pow_59, pow_60, mul_big, o_mod m0, o_mod m1, o_mod m2, o_mul (.inr s83), o_mul (.inl s1009), o_mul (.inl s47), o_add, sv_ret, ev_hnd, ev_lst, pow_17, hy, List.length_cons, List.length_nil, Nat.zero_add, Nat.reduceAdd, if_pos l3, List.nil_append]
  rfl
theorem neq_refl_ok {st : Sto} : True := trivial
theorem law_pure (ns : List Int) (h : ns.length ≤ 63) : f_law [] [.scr (ns.map D.int)] = .ok (.bl true) [] := by
  refine fn_ret ?_ rfl
  show retD (sSeq w_law_1 (sSeq _ (sSeq _ (sRet (eAndV _ _)))) [some (.scr (ns.map D.int)), none, none, none] []) = _
  obtain ⟨N, hN, hN3⟩ : ∃ N : Nat, (if (if (ns.length : Int) < 3 then (ns.length : Int) else 3) > 1 then (if (ns.length : Int) < 3 then (ns.length : Int) else 3) else 1) = (N : Int) ∧ N ≤ 3 := by
    by_cases h3 : (ns.length : Int) < 3
    · rw [if_pos h3]
      by_cases h1 : (ns.length : Int) > 1
      · rw [if_pos h1]; exact ⟨ns.length, rfl, by omega⟩
      · rw [if_neg h1]; exact ⟨1, rfl, by omega⟩
    · rw [if_neg h3]; exact ⟨3, rfl, by omega⟩
  have hm : max2D [] [.int 1, .int (if (ns.length : Int) < 3 then (ns.length : Int) else 3)] = some (.int N) := by
    show some (D.int _) = _
    exact congrArg (fun z => some (D.int z)) hN
  have hmin : min2D [] [.int 3, .int (ns.length : Int)] = some (.int (if (ns.length : Int) < 3 then (ns.length : Int) else 3)) := rfl
  have hw := wk_rng (fs := aCons (eCB max2D (aCons (eC (.int 1)) (aCons (eCB min2D (aCons (eC (.int 3)) (aCons (eCB lenD (aCons (eVar 0) aNil)) aNil))) aNil))) aNil) (sd := [some (.scr (ns.map D.int)), none, none, none]) (st := []) (st' := []) (k := 1) (ds := [.int (N : Int)]) (by
    simp only [ev_cons, ev_cb, ev_c, ev_v0, ev_nil, rb_ok, l_lenS, List.length_map, ro_some, hmin, hm]) rfl (rng1 (n := N) (by omega))
  obtain ⟨sd2, st2, e, o1, o3, h1⟩ := for_run (fg := gNameD 1) (b := y_law_1) hw (fun i sd st => ∃ o1 o3 : Option D, sd = [some (.scr (ns.map D.int)), o1, none, o3]) ⟨none, none, rfl⟩ (by
    rintro i x _ st hx ⟨o1, o3, rfl⟩
    obtain ⟨hi, rfl⟩ := rg_at hx
    have e0 : (0 + (i : Int) * 1) = (i : Int) := by omega
    rw [e0]
    obtain ⟨B, cb, hB⟩ := c_bag (ns := ns) (k := i) st
    have hs0 : (st ++ [Cell.lst B])[st.length]? = some (.lst B) := by rw [List.getElem?_append_right (Nat.le_refl _), Nat.sub_self]; rfl
    obtain ⟨B1, r1, hB1⟩ := c_right hs0 hB
    obtain ⟨B2, r2, hB2⟩ := c_right (st_set hs0 (ys := B1)) hB1
    refine ⟨[some (.scr (ns.map D.int)), some (.int i), none, o3], st, [some (.scr (ns.map D.int)), some (.int i), none, some (.hnd st.length)], ((st ++ [Cell.lst B]).set st.length (.lst B1)).set st.length (.lst B2), by simp only [gv_name, List.set_cons_succ, List.set_cons_zero], ?_, some (.int i), some (.hnd st.length), rfl⟩
    show sSeq (sSet 3 _) (sIf _ _ _) _ _ = _
    simp only [sv_seq, sv_set, ev_hnd, ev_fcal, ev_cons, ev_v0, ev_vs, ev_nil, rb_ok, List.append_nil, cb, rs_ok, sk_nx, List.set_cons_succ, List.set_cons_zero, sv_if, ev_or, ev_not, ev_test, ev_calB, r1, r2, ro_some, isB_bl, Bool.not_true, if_neg Bool.false_ne_true, sv_next])
  have e : w_law_1 [some (.scr (ns.map D.int)), none, none, none] [] = .go .nx sd2 st2 := e
  subst h1
  rw [sv_seq, e, sk_nx]
  have p3 : isP 3 := .inr (.inl rfl)
  have p2 : isP 2 := .inl rfl
  have p5 : isP 5 := .inr (.inr (.inl rfl))
  have p7 : isP 7 := .inr (.inr (.inr rfl))
  have nz : ∀ (p : Int) (xs : List Int), (xs.all fun x => decide (0 ≤ x) && decide (x < p)) = true → trim xs = xs → Nrm p xs := fun p xs h1 h2 => ⟨fun x hx => by have := List.all_eq_true.mp h1 x hx; simpa using this, h2⟩
  have t1 : callD 3 f_poly_division st2 [.int 3, P [1, 0, 1], P [1, 1]] = .ok (.tup [P [2, 1], P [2]]) st2 := by
    rw [c_poly_division p3 (nz 3 _ (by decide) (by decide)) (nz 3 _ (by decide) (by decide)) (by decide) (by decide) st2 (by decide), show divM 3 [1, 0, 1] [1, 1] = ([2, 1], [2]) by decide +kernel]
  have t2 : callD 3 f_common_poly st2 [.int 3, P [2, 0, 1], P [2, 1]] = .ok (P [2, 1]) st2 := by
    rw [c_common_poly p3 (nz 3 _ (by decide) (by decide)) (nz 3 _ (by decide) (by decide)) (by decide) (by decide) st2, show monM 3 (gcdM 3 [2, 0, 1] [2, 1]) = [2, 1] by decide +kernel]
  have t3 : callD 3 f_common_paper st2 [.int 2, P [1, 1], P [0, 1]] = .ok (.tup [P [1], P [1], P [1]]) st2 := by
    rw [c_common_paper p2 (nz 2 _ (by decide) (by decide)) (nz 2 _ (by decide) (by decide)) (by decide) (by decide) st2, show papT 2 (papR 2 [1, 1] [0, 1]) = [[1], [1], [1]] by decide +kernel]
    rfl
  have t4 : callD 3 f_common_paper st2 [.int 5, P [], P []] = .ok (.tup [P [], P [], P []]) st2 := by
    rw [c_common_paper p5 nrm_nil nrm_nil (by decide) (by decide) st2, show papT 5 (papR 5 [] []) = [[], [], []] by decide +kernel]
    rfl
  have t5 : callD 3 f_common_paper st2 [.int 7, P [0, 3], P [0, 0, 2]] = .ok (.tup [P [0, 1], P [5], P []]) st2 := by
    rw [c_common_paper p7 (nz 7 _ (by decide) (by decide)) (nz 7 _ (by decide) (by decide)) (by decide) (by decide) st2, show papT 7 (papR 7 [0, 3] [0, 0, 2]) = [[0, 1], [5], []] by decide +kernel]
    rfl
  have t6 : callD 3 f_common_paper st2 [.int 7, P [], P [0, 3]] = .ok (.tup [P [0, 1], P [], P [5]]) st2 := by
    rw [c_common_paper p7 nrm_nil (nz 7 _ (by decide) (by decide)) (by decide) (by decide) st2, show papT 7 (papR 7 [] [0, 3]) = [[0, 1], [], [5]] by decide +kernel]
    rfl
  have l0 : (0 : Nat) ≤ lineN := by decide
  have l1 : (1 : Nat) ≤ lineN := by decide
  have l2 : (2 : Nat) ≤ lineN := by decide
  have l3 : (3 : Nat) ≤ lineN := by decide
  have a1 : D.tup [.int 1, .int 0, .int 1] = P [1, 0, 1] := id rfl
  have a2 : D.tup [.int 1, .int 1] = P [1, 1] := id rfl
  have a3 : D.tup [.int 2, .int 0, .int 1] = P [2, 0, 1] := id rfl
  have a4 : D.tup [.int 2, .int 1] = P [2, 1] := id rfl
  have a5 : D.tup [.int 0, .int 1] = P [0, 1] := id rfl
  have a6 : D.tup [.int 2] = P [2] := id rfl
  have a7 : D.tup [.int 0, .int 3] = P [0, 3] := id rfl
  have a8 : D.tup [.int 0, .int 0, .int 2] = P [0, 0, 2] := id rfl
  have a9 : D.tup [.int 5] = P [5] := id rfl
  have v1 : neD st2 (.lst [.tup [P [2, 1], P [2]], P [2, 1], .tup [P [1], P [1], P [1]]]) (.lst [.tup [P [2, 1], P [2]], P [2, 1], .tup [P [1], P [1], P [1]]]) = some (.bl false) := by kernel_rfl
  have v2 : neD st2 (.tup [P [], P [], P []]) (.tup [P [], P [], P []]) = some (.bl false) := by kernel_rfl
  have v3 : eqD st2 (.tup [P [0, 1], P [5], P []]) (.tup [P [0, 1], P [5], P []]) = some (.bl true) := by kernel_rfl
  have v4 : eqD st2 (.tup [P [0, 1], P [], P [5]]) (.tup [P [0, 1], P [], P [5]]) = some (.bl true) := by kernel_rfl
  have ret : ∀ (sd : Sl), sd = [some (.scr (ns.map D.int)), o1, some (.lst [.tup [P [2, 1], P [2]], P [2, 1], .tup [P [1], P [1], P [1]]]), o3] → retD (sRet (eAndV (eOp eqD (eCal 3 f_common_paper [] (aCons (eC (.int 7)) (aCons (eTup (aCons (eC (.int 0)) (aCons (eC (.int 3)) aNil))) (aCons (eTup (aCons (eC (.int 0)) (aCons (eC (.int 0)) (aCons (eC (.int 2)) aNil)))) aNil)))) (eTup (aCons (eTup (aCons (eC (.int 0)) (aCons (eC (.int 1)) aNil))) (aCons (eTup (aCons (eC (.int 5)) aNil)) (aCons (eTup aNil) aNil))))) (eOp eqD (eCal 3 f_common_paper [] (aCons (eC (.int 7)) (aCons (eTup aNil) (aCons (eTup (aCons (eC (.int 0)) (aCons (eC (.int 3)) aNil))) aNil)))) (eTup (aCons (eTup (aCons (eC (.int 0)) (aCons (eC (.int 1)) aNil))) (aCons (eTup aNil) (aCons (eTup (aCons (eC (.int 5)) aNil)) aNil)))))) sd st2) = some (.bl true) := by
    rintro _ rfl
    rw [sv_ret, ev_andV' (k := true) (st1 := st2)]
    · simp only [if_true, ev_op, ev_cal, ev_cons, ev_c, ev_nil, ev_tup, rb_ok, List.length_cons, List.length_nil, Nat.zero_add, Nat.reduceAdd, if_pos l0, if_pos l1, if_pos l2, if_pos l3, List.append_nil, P_nil, a5, a7, a9, t6, v4, ro_some, rs_ok, retD_ret]
    · simp only [ev_op, ev_cal, ev_cons, ev_c, ev_nil, ev_tup, rb_ok, List.length_cons, List.length_nil, Nat.zero_add, Nat.reduceAdd, if_pos l0, if_pos l1, if_pos l2, if_pos l3, List.append_nil, P_nil, a5, a7, a8, a9, t5, v3, ro_some]
  rw [sv_seq, sv_set]
  simp only [ev_fz, ev_lst, ev_cal, ev_cons, ev_c, ev_nil, ev_tup, rb_ok, List.length_cons, List.length_nil, Nat.zero_add, Nat.reduceAdd, if_pos l0, if_pos l1, if_pos l2, if_pos l3, List.append_nil, a1, a2, a3, a4, a5, t1, t2, t3, rs_ok, sk_nx, List.set_cons_succ, List.set_cons_zero]
  rw [sv_seq, sv_if]
  simp only [ev_or, ev_test, ev_op, ev_v0, ev_vs, ev_fz, ev_lst, ev_cal, ev_cons, ev_c, ev_nil, ev_tup, rb_ok, List.length_cons, List.length_nil, Nat.zero_add, Nat.reduceAdd, if_pos l0, if_pos l1, if_pos l2, if_pos l3, List.append_nil, a4, a6, P1, P_nil, v1, t4, v2, ro_some, isB_bl, if_neg Bool.false_ne_true, rs_ok, sv_next, sk_nx]
  exact ret _ rfl
end Gn
namespace Gn
open PySem PySem.Spec PyProof.Rows L2 DS
def mkD (x : Str) (i : Nat) (kwd : List (Str × He.Dv)) : He.DefD := ⟨(x, none), x, x, defArgs (top i), defBody (top i), defScope (top i), [], kwd⟩
def fnl0 : List He.DefD := [mkD "is_whole" 9 [], mkD "undone_number" 15 [], mkD "trimmed" 18 [], mkD "number_at" 20 [], mkD "value_in" 29 [], mkD "_law_bag" 41 [], mkD "_law_grab" 42 [], mkD "_law_po_cut" 45 [], mkD "_law_po_inverse" 49 [], mkD "_law_po_at" 55 [], mkD "_law_is_poly_here" 56 [], mkD "is_integer" 10 [], mkD "is_within" 11 [], mkD "require_prime" 14 [], mkD "plus_in" 19 [], mkD "times_in" 21 [], mkD "scaled_poly" 22 [], mkD "divided_in" 23 [], mkD "slope_of_poly" 28 [], mkD "_law_one_of" 43 [], mkD "_law_poly_drawn" 44 [], mkD "_law_po_sum" 46 [], mkD "_law_po_times" 47 [], mkD "_law_po_product" 48 [], mkD "_law_po_division" 50 [], mkD "_law_po_slope" 53 [], mkD "require_within" 12 [], mkD "require_integer" 13 [], mkD "is_poly_any" 16 [], mkD "monic_in" 24 []]
def fnl1 : List He.DefD := [mkD "paper_in" 26 [], mkD "raised_in" 27 [], mkD "_law_po_monic" 51 [], mkD "_law_po_power" 54 [], mkD "require_poly" 17 [], mkD "common_in" 25 [], mkD "is_poly" 31 [], mkD "_law_po_common" 52 [], mkD "require_two" 30 [], mkD "poly_power" 37 [], mkD "poly_slope" 38 [], mkD "poly_at" 39 [], mkD "_law_is_paper_right" 57 [], mkD "poly_sum" 32 [("times", .int 1)], mkD "poly_product" 33 [], mkD "poly_division" 34 [], mkD "common_poly" 35 [], mkD "common_paper" 36 [], mkD "_law_sums_right" 58 [], mkD "_law_quotients_right" 59 [], mkD "_law_right" 60 [], mkD "law" 61 []]
def fnl : List He.DefD := fnl0 ++ (fnl1)
def fal0 : List He.Fa := [.glo "is_whole", .glo "undone_number", .glo "trimmed", .glo "number_at", .glo "value_in", .glo "_law_bag", .glo "_law_grab", .glo "_law_po_cut", .glo "_law_po_inverse", .glo "_law_po_at", .glo "_law_is_poly_here", .glo "is_integer", .glo "is_within", .glo "require_prime", .glo "plus_in", .glo "times_in", .glo "scaled_poly", .glo "divided_in", .glo "slope_of_poly", .glo "_law_one_of", .glo "_law_poly_drawn", .glo "_law_po_sum", .glo "_law_po_times", .glo "_law_po_product", .glo "_law_po_division", .glo "_law_po_slope", .glo "require_within", .glo "require_integer", .glo "is_poly_any", .glo "monic_in"]
def fal1 : List He.Fa := [.glo "paper_in", .glo "raised_in", .glo "_law_po_monic", .glo "_law_po_power", .glo "require_poly", .glo "common_in", .glo "is_poly", .glo "_law_po_common", .glo "require_two", .glo "poly_power", .glo "poly_slope", .glo "poly_at", .glo "_law_is_paper_right", .glo "poly_sum", .glo "poly_product", .glo "poly_division", .glo "common_poly", .glo "common_paper", .glo "_law_sums_right", .glo "_law_quotients_right", .glo "_law_right", .glo "law", .free "int", .free "isinstance", .free "bool", .free "tuple", .free "len", .free "abs", .free "max", .free "range"]
def fal2 : List He.Fa := [.free "enumerate", .free "list", .free "zip", .free "all", .free "repr", .free "min", .int "MOST_FIGURES" 1000000000000000000000000000000000000000000000000000000000000, .glo "PRIMES", .int "MAX_POWER" 60]
def fal : List He.Fa := fal0 ++ (fal1 ++ (fal2))
def exl (K : PySem.W.Frag) : Bool := true && He.tupB K "PRIMES" ([2, 3, 5, 7].map He.Dv.int)
def loose0 : List Str := ["is_whole", "is_integer", "is_within", "require_within", "require_integer", "require_prime", "undone_number", "is_poly_any", "require_poly", "trimmed", "plus_in", "number_at", "times_in", "scaled_poly", "divided_in", "monic_in", "common_in", "paper_in", "raised_in", "slope_of_poly", "value_in", "require_two", "is_poly", "poly_sum", "poly_product", "poly_division", "common_poly", "common_paper", "poly_power", "poly_slope"]
def loose1 : List Str := ["poly_at", "_law_bag", "_law_grab", "_law_one_of", "_law_poly_drawn", "_law_po_cut", "_law_po_sum", "_law_po_times", "_law_po_product", "_law_po_inverse", "_law_po_division", "_law_po_monic", "_law_po_common", "_law_po_slope", "_law_po_power", "_law_po_at", "_law_is_poly_here", "_law_is_paper_right", "_law_sums_right", "_law_quotients_right", "_law_right", "SlopeError", "InvalidPoly", "InvalidOperation", "InvalidNumber", "PRIMES", "MAX_POWER", "MOST_FIGURES"]
def loose : List Str := loose0 ++ (loose1)
abbrev Rr : PySem.W.OpenRow := PySem.W.OpenLaw.row PySem.Challenge.rw_slopewords_k00_whole_polynomials
abbrev hkk : PySem.W.Hook := hookE 5 fal fnl exl
def obb (s : PySem.W.SharedT) : He.AlD × Bool := obE 5 fal fnl exl (HandSHeadRun.getT s)
theorem obb_eq (s : PySem.W.SharedT) : obb s = hkk.obs s.abs := obE_eq (HandSHeadRun.getT_eq s)
theorem runs (w : World) : HandSHeadRun.RunEq Rr (PySem.W.view Rr.prog [61]) hkk obb 4000 loose w := by
  intro os
  kernel_rfl
end Gn
namespace Gn
open PySem PySem.Spec PyProof.Rows L2 DS
theorem sc_is_whole : FnScope N_is_whole P_is_whole S_is_whole := ⟨rfl, rfl, rfl, by decide +kernel, rfl, by decide +kernel, by decide +kernel⟩
theorem sc_undone_number : FnScope N_undone_number P_undone_number S_undone_number := ⟨rfl, rfl, rfl, by decide +kernel, rfl, by decide +kernel, by decide +kernel⟩
theorem sc_trimmed : FnScope N_trimmed P_trimmed S_trimmed := ⟨rfl, rfl, rfl, by decide +kernel, rfl, by decide +kernel, by decide +kernel⟩
theorem sc_number_at : FnScope N_number_at P_number_at S_number_at := ⟨rfl, rfl, rfl, by decide +kernel, rfl, by decide +kernel, by decide +kernel⟩
theorem sc_value_in : FnScope N_value_in P_value_in S_value_in := ⟨rfl, rfl, rfl, by decide +kernel, rfl, by decide +kernel, by decide +kernel⟩
theorem sc__law_bag : FnScope N__law_bag P__law_bag S__law_bag := ⟨rfl, rfl, rfl, by decide +kernel, rfl, by decide +kernel, by decide +kernel⟩
theorem sc__law_grab : FnScope N__law_grab P__law_grab S__law_grab := ⟨rfl, rfl, rfl, by decide +kernel, rfl, by decide +kernel, by decide +kernel⟩
theorem sc__law_po_cut : FnScope N__law_po_cut P__law_po_cut S__law_po_cut := ⟨rfl, rfl, rfl, by decide +kernel, rfl, by decide +kernel, by decide +kernel⟩
theorem sc__law_po_inverse : FnScope N__law_po_inverse P__law_po_inverse S__law_po_inverse := ⟨rfl, rfl, rfl, by decide +kernel, rfl, by decide +kernel, by decide +kernel⟩
theorem sc__law_po_at : FnScope N__law_po_at P__law_po_at S__law_po_at := ⟨rfl, rfl, rfl, by decide +kernel, rfl, by decide +kernel, by decide +kernel⟩
theorem sc__law_is_poly_here : FnScope N__law_is_poly_here P__law_is_poly_here S__law_is_poly_here := ⟨rfl, rfl, rfl, by decide +kernel, rfl, by decide +kernel, by decide +kernel⟩
theorem sc_is_integer : FnScope N_is_integer P_is_integer S_is_integer := ⟨rfl, rfl, rfl, by decide +kernel, rfl, by decide +kernel, by decide +kernel⟩
theorem sc_is_within : FnScope N_is_within P_is_within S_is_within := ⟨rfl, rfl, rfl, by decide +kernel, rfl, by decide +kernel, by decide +kernel⟩
theorem sc_require_prime : FnScope N_require_prime P_require_prime S_require_prime := ⟨rfl, rfl, rfl, by decide +kernel, rfl, by decide +kernel, by decide +kernel⟩
theorem sc_plus_in : FnScope N_plus_in P_plus_in S_plus_in := ⟨rfl, rfl, rfl, by decide +kernel, rfl, by decide +kernel, by decide +kernel⟩
theorem sc_times_in : FnScope N_times_in P_times_in S_times_in := ⟨rfl, rfl, rfl, by decide +kernel, rfl, by decide +kernel, by decide +kernel⟩
theorem sc_scaled_poly : FnScope N_scaled_poly P_scaled_poly S_scaled_poly := ⟨rfl, rfl, rfl, by decide +kernel, rfl, by decide +kernel, by decide +kernel⟩
theorem sc_divided_in : FnScope N_divided_in P_divided_in S_divided_in := ⟨rfl, rfl, rfl, by decide +kernel, rfl, by decide +kernel, by decide +kernel⟩
theorem sc_slope_of_poly : FnScope N_slope_of_poly P_slope_of_poly S_slope_of_poly := ⟨rfl, rfl, rfl, by decide +kernel, rfl, by decide +kernel, by decide +kernel⟩
theorem sc__law_one_of : FnScope N__law_one_of P__law_one_of S__law_one_of := ⟨rfl, rfl, rfl, by decide +kernel, rfl, by decide +kernel, by decide +kernel⟩
theorem sc__law_poly_drawn : FnScope N__law_poly_drawn P__law_poly_drawn S__law_poly_drawn := ⟨rfl, rfl, rfl, by decide +kernel, rfl, by decide +kernel, by decide +kernel⟩
theorem sc__law_po_sum : FnScope N__law_po_sum P__law_po_sum S__law_po_sum := ⟨rfl, rfl, rfl, by decide +kernel, rfl, by decide +kernel, by decide +kernel⟩
theorem sc__law_po_times : FnScope N__law_po_times P__law_po_times S__law_po_times := ⟨rfl, rfl, rfl, by decide +kernel, rfl, by decide +kernel, by decide +kernel⟩
theorem sc__law_po_product : FnScope N__law_po_product P__law_po_product S__law_po_product := ⟨rfl, rfl, rfl, by decide +kernel, rfl, by decide +kernel, by decide +kernel⟩
theorem sc__law_po_division : FnScope N__law_po_division P__law_po_division S__law_po_division := ⟨rfl, rfl, rfl, by decide +kernel, rfl, by decide +kernel, by decide +kernel⟩
theorem sc__law_po_slope : FnScope N__law_po_slope P__law_po_slope S__law_po_slope := ⟨rfl, rfl, rfl, by decide +kernel, rfl, by decide +kernel, by decide +kernel⟩
theorem sc_require_within : FnScope N_require_within P_require_within S_require_within := ⟨rfl, rfl, rfl, by decide +kernel, rfl, by decide +kernel, by decide +kernel⟩
theorem sc_require_integer : FnScope N_require_integer P_require_integer S_require_integer := ⟨rfl, rfl, rfl, by decide +kernel, rfl, by decide +kernel, by decide +kernel⟩
theorem sc_is_poly_any : FnScope N_is_poly_any P_is_poly_any S_is_poly_any := ⟨rfl, rfl, rfl, by decide +kernel, rfl, by decide +kernel, by decide +kernel⟩
theorem sc_monic_in : FnScope N_monic_in P_monic_in S_monic_in := ⟨rfl, rfl, rfl, by decide +kernel, rfl, by decide +kernel, by decide +kernel⟩
theorem sc_paper_in : FnScope N_paper_in P_paper_in S_paper_in := ⟨rfl, rfl, rfl, by decide +kernel, rfl, by decide +kernel, by decide +kernel⟩
theorem sc_raised_in : FnScope N_raised_in P_raised_in S_raised_in := ⟨rfl, rfl, rfl, by decide +kernel, rfl, by decide +kernel, by decide +kernel⟩
theorem sc__law_po_monic : FnScope N__law_po_monic P__law_po_monic S__law_po_monic := ⟨rfl, rfl, rfl, by decide +kernel, rfl, by decide +kernel, by decide +kernel⟩
theorem sc__law_po_power : FnScope N__law_po_power P__law_po_power S__law_po_power := ⟨rfl, rfl, rfl, by decide +kernel, rfl, by decide +kernel, by decide +kernel⟩
theorem sc_require_poly : FnScope N_require_poly P_require_poly S_require_poly := ⟨rfl, rfl, rfl, by decide +kernel, rfl, by decide +kernel, by decide +kernel⟩
theorem sc_common_in : FnScope N_common_in P_common_in S_common_in := ⟨rfl, rfl, rfl, by decide +kernel, rfl, by decide +kernel, by decide +kernel⟩
theorem sc_is_poly : FnScope N_is_poly P_is_poly S_is_poly := ⟨rfl, rfl, rfl, by decide +kernel, rfl, by decide +kernel, by decide +kernel⟩
theorem sc__law_po_common : FnScope N__law_po_common P__law_po_common S__law_po_common := ⟨rfl, rfl, rfl, by decide +kernel, rfl, by decide +kernel, by decide +kernel⟩
theorem sc_require_two : FnScope N_require_two P_require_two S_require_two := ⟨rfl, rfl, rfl, by decide +kernel, rfl, by decide +kernel, by decide +kernel⟩
theorem sc_poly_power : FnScope N_poly_power P_poly_power S_poly_power := ⟨rfl, rfl, rfl, by decide +kernel, rfl, by decide +kernel, by decide +kernel⟩
theorem sc_poly_slope : FnScope N_poly_slope P_poly_slope S_poly_slope := ⟨rfl, rfl, rfl, by decide +kernel, rfl, by decide +kernel, by decide +kernel⟩
theorem sc_poly_at : FnScope N_poly_at P_poly_at S_poly_at := ⟨rfl, rfl, rfl, by decide +kernel, rfl, by decide +kernel, by decide +kernel⟩
theorem sc__law_is_paper_right : FnScope N__law_is_paper_right P__law_is_paper_right S__law_is_paper_right := ⟨rfl, rfl, rfl, by decide +kernel, rfl, by decide +kernel, by decide +kernel⟩
theorem sc_poly_sum : FnScope N_poly_sum P_poly_sum S_poly_sum := ⟨rfl, rfl, rfl, by decide +kernel, rfl, by decide +kernel, by decide +kernel⟩
theorem sc_poly_product : FnScope N_poly_product P_poly_product S_poly_product := ⟨rfl, rfl, rfl, by decide +kernel, rfl, by decide +kernel, by decide +kernel⟩
theorem sc_poly_division : FnScope N_poly_division P_poly_division S_poly_division := ⟨rfl, rfl, rfl, by decide +kernel, rfl, by decide +kernel, by decide +kernel⟩
theorem sc_common_poly : FnScope N_common_poly P_common_poly S_common_poly := ⟨rfl, rfl, rfl, by decide +kernel, rfl, by decide +kernel, by decide +kernel⟩
theorem sc_common_paper : FnScope N_common_paper P_common_paper S_common_paper := ⟨rfl, rfl, rfl, by decide +kernel, rfl, by decide +kernel, by decide +kernel⟩
theorem sc__law_sums_right : FnScope N__law_sums_right P__law_sums_right S__law_sums_right := ⟨rfl, rfl, rfl, by decide +kernel, rfl, by decide +kernel, by decide +kernel⟩
theorem sc__law_quotients_right : FnScope N__law_quotients_right P__law_quotients_right S__law_quotients_right := ⟨rfl, rfl, rfl, by decide +kernel, rfl, by decide +kernel, by decide +kernel⟩
theorem sc__law_right : FnScope N__law_right P__law_right S__law_right := ⟨rfl, rfl, rfl, by decide +kernel, rfl, by decide +kernel, by decide +kernel⟩
theorem sc_law : FnScope N_law P_law S_law := ⟨rfl, rfl, rfl, by decide +kernel, rfl, by decide +kernel, by decide +kernel⟩
theorem facts {P : Program} {w : World} {K : PySem.W.Frag} {h : Heap} {mg : Str → Option Value} {f : Addr} (X : K.In h) (G : h.Ns mainGlobals mg) (hfa : mg ("law" : Str) = some (.ref f)) (c : He.SaysD fal fnl K) (cx : exl K = true) :
    ∃ fd : FuncData, (∀ (s : Shared) (v : Value), BindsTo s fd ⟨[v], []⟩ [("script", v)]) ∧ ∀ base : Heap, K.In base → base.Ns mainGlobals mg → FnOk P w K mg base CX0 9 f fd ["script"] (fun vs H Q _ => spD ⟨K, mg⟩ 1 f_law vs H Q fun _ _ _ => False) := by
  obtain ⟨d_is_whole, D_is_whole⟩ := c.def_ 0 (d := mkD "is_whole" 9 []) rfl
  obtain ⟨d_undone_number, D_undone_number⟩ := c.def_ 1 (d := mkD "undone_number" 15 []) rfl
  obtain ⟨d_trimmed, D_trimmed⟩ := c.def_ 2 (d := mkD "trimmed" 18 []) rfl
  obtain ⟨d_number_at, D_number_at⟩ := c.def_ 3 (d := mkD "number_at" 20 []) rfl
  obtain ⟨d_value_in, D_value_in⟩ := c.def_ 4 (d := mkD "value_in" 29 []) rfl
  obtain ⟨d__law_bag, D__law_bag⟩ := c.def_ 5 (d := mkD "_law_bag" 41 []) rfl
  obtain ⟨d__law_grab, D__law_grab⟩ := c.def_ 6 (d := mkD "_law_grab" 42 []) rfl
  obtain ⟨d__law_po_cut, D__law_po_cut⟩ := c.def_ 7 (d := mkD "_law_po_cut" 45 []) rfl
  obtain ⟨d__law_po_inverse, D__law_po_inverse⟩ := c.def_ 8 (d := mkD "_law_po_inverse" 49 []) rfl
  obtain ⟨d__law_po_at, D__law_po_at⟩ := c.def_ 9 (d := mkD "_law_po_at" 55 []) rfl
  obtain ⟨d__law_is_poly_here, D__law_is_poly_here⟩ := c.def_ 10 (d := mkD "_law_is_poly_here" 56 []) rfl
  obtain ⟨d_is_integer, D_is_integer⟩ := c.def_ 11 (d := mkD "is_integer" 10 []) rfl
  obtain ⟨d_is_within, D_is_within⟩ := c.def_ 12 (d := mkD "is_within" 11 []) rfl
  obtain ⟨d_require_prime, D_require_prime⟩ := c.def_ 13 (d := mkD "require_prime" 14 []) rfl
  obtain ⟨d_plus_in, D_plus_in⟩ := c.def_ 14 (d := mkD "plus_in" 19 []) rfl
  obtain ⟨d_times_in, D_times_in⟩ := c.def_ 15 (d := mkD "times_in" 21 []) rfl
  obtain ⟨d_scaled_poly, D_scaled_poly⟩ := c.def_ 16 (d := mkD "scaled_poly" 22 []) rfl
  obtain ⟨d_divided_in, D_divided_in⟩ := c.def_ 17 (d := mkD "divided_in" 23 []) rfl
  obtain ⟨d_slope_of_poly, D_slope_of_poly⟩ := c.def_ 18 (d := mkD "slope_of_poly" 28 []) rfl
  obtain ⟨d__law_one_of, D__law_one_of⟩ := c.def_ 19 (d := mkD "_law_one_of" 43 []) rfl
  obtain ⟨d__law_poly_drawn, D__law_poly_drawn⟩ := c.def_ 20 (d := mkD "_law_poly_drawn" 44 []) rfl
  obtain ⟨d__law_po_sum, D__law_po_sum⟩ := c.def_ 21 (d := mkD "_law_po_sum" 46 []) rfl
  obtain ⟨d__law_po_times, D__law_po_times⟩ := c.def_ 22 (d := mkD "_law_po_times" 47 []) rfl
  obtain ⟨d__law_po_product, D__law_po_product⟩ := c.def_ 23 (d := mkD "_law_po_product" 48 []) rfl
  obtain ⟨d__law_po_division, D__law_po_division⟩ := c.def_ 24 (d := mkD "_law_po_division" 50 []) rfl
  obtain ⟨d__law_po_slope, D__law_po_slope⟩ := c.def_ 25 (d := mkD "_law_po_slope" 53 []) rfl
  obtain ⟨d_require_within, D_require_within⟩ := c.def_ 26 (d := mkD "require_within" 12 []) rfl
  obtain ⟨d_require_integer, D_require_integer⟩ := c.def_ 27 (d := mkD "require_integer" 13 []) rfl
  obtain ⟨d_is_poly_any, D_is_poly_any⟩ := c.def_ 28 (d := mkD "is_poly_any" 16 []) rfl
  obtain ⟨d_monic_in, D_monic_in⟩ := c.def_ 29 (d := mkD "monic_in" 24 []) rfl
  obtain ⟨d_paper_in, D_paper_in⟩ := c.def_ 30 (d := mkD "paper_in" 26 []) rfl
  obtain ⟨d_raised_in, D_raised_in⟩ := c.def_ 31 (d := mkD "raised_in" 27 []) rfl
  obtain ⟨d__law_po_monic, D__law_po_monic⟩ := c.def_ 32 (d := mkD "_law_po_monic" 51 []) rfl
  obtain ⟨d__law_po_power, D__law_po_power⟩ := c.def_ 33 (d := mkD "_law_po_power" 54 []) rfl
  obtain ⟨d_require_poly, D_require_poly⟩ := c.def_ 34 (d := mkD "require_poly" 17 []) rfl
  obtain ⟨d_common_in, D_common_in⟩ := c.def_ 35 (d := mkD "common_in" 25 []) rfl
  obtain ⟨d_is_poly, D_is_poly⟩ := c.def_ 36 (d := mkD "is_poly" 31 []) rfl
  obtain ⟨d__law_po_common, D__law_po_common⟩ := c.def_ 37 (d := mkD "_law_po_common" 52 []) rfl
  obtain ⟨d_require_two, D_require_two⟩ := c.def_ 38 (d := mkD "require_two" 30 []) rfl
  obtain ⟨d_poly_power, D_poly_power⟩ := c.def_ 39 (d := mkD "poly_power" 37 []) rfl
  obtain ⟨d_poly_slope, D_poly_slope⟩ := c.def_ 40 (d := mkD "poly_slope" 38 []) rfl
  obtain ⟨d_poly_at, D_poly_at⟩ := c.def_ 41 (d := mkD "poly_at" 39 []) rfl
  obtain ⟨d__law_is_paper_right, D__law_is_paper_right⟩ := c.def_ 42 (d := mkD "_law_is_paper_right" 57 []) rfl
  obtain ⟨d_poly_sum, D_poly_sum⟩ := c.def_ 43 (d := mkD "poly_sum" 32 [("times", .int 1)]) rfl
  obtain ⟨d_poly_product, D_poly_product⟩ := c.def_ 44 (d := mkD "poly_product" 33 []) rfl
  obtain ⟨d_poly_division, D_poly_division⟩ := c.def_ 45 (d := mkD "poly_division" 34 []) rfl
  obtain ⟨d_common_poly, D_common_poly⟩ := c.def_ 46 (d := mkD "common_poly" 35 []) rfl
  obtain ⟨d_common_paper, D_common_paper⟩ := c.def_ 47 (d := mkD "common_paper" 36 []) rfl
  obtain ⟨d__law_sums_right, D__law_sums_right⟩ := c.def_ 48 (d := mkD "_law_sums_right" 58 []) rfl
  obtain ⟨d__law_quotients_right, D__law_quotients_right⟩ := c.def_ 49 (d := mkD "_law_quotients_right" 59 []) rfl
  obtain ⟨d__law_right, D__law_right⟩ := c.def_ 50 (d := mkD "_law_right" 60 []) rfl
  obtain ⟨d_law, D_law⟩ := c.def_ 51 (d := mkD "law" 61 []) rfl
  have e := hfa.symm.trans (He.glo_ok X G (c.fact 51 (f := .glo "law") rfl))
  cases e
  have bL := FunD.bindsA (ps := ["script"]) D_law fun _ _ _ _ _ _ us hl => match us, hl with | [_], _ => rfl
  refine ⟨d_law, fun s v => bL s [v] rfl, fun base _ _ => ?_⟩
  let M : Mo := ⟨P, w, K, mg, base⟩
  have m_int : M.mg "int" = none := He.free_ok X G (c.fact 52 (f := .free "int") rfl)
  have m_isinstance : M.mg "isinstance" = none := He.free_ok X G (c.fact 53 (f := .free "isinstance") rfl)
  have m_bool : M.mg "bool" = none := He.free_ok X G (c.fact 54 (f := .free "bool") rfl)
  have m_tuple : M.mg "tuple" = none := He.free_ok X G (c.fact 55 (f := .free "tuple") rfl)
  have m_len : M.mg "len" = none := He.free_ok X G (c.fact 56 (f := .free "len") rfl)
  have m_abs : M.mg "abs" = none := He.free_ok X G (c.fact 57 (f := .free "abs") rfl)
  have m_max : M.mg "max" = none := He.free_ok X G (c.fact 58 (f := .free "max") rfl)
  have m_range : M.mg "range" = none := He.free_ok X G (c.fact 59 (f := .free "range") rfl)
  have m_enumerate : M.mg "enumerate" = none := He.free_ok X G (c.fact 60 (f := .free "enumerate") rfl)
  have m_list : M.mg "list" = none := He.free_ok X G (c.fact 61 (f := .free "list") rfl)
  have m_zip : M.mg "zip" = none := He.free_ok X G (c.fact 62 (f := .free "zip") rfl)
  have m_all : M.mg "all" = none := He.free_ok X G (c.fact 63 (f := .free "all") rfl)
  have m_repr : M.mg "repr" = none := He.free_ok X G (c.fact 64 (f := .free "repr") rfl)
  have m_min : M.mg "min" = none := He.free_ok X G (c.fact 65 (f := .free "min") rfl)
  have g_MOST_FIGURES : Glb M "MOST_FIGURES" c_MOST_FIGURES := glb_int (He.int_ok X G (c.fact 66 (f := .int "MOST_FIGURES" 1000000000000000000000000000000000000000000000000000000000000) rfl))
  have g_PRIMES : Glb M "PRIMES" c_PRIMES := glb_tup [2, 3, 5, 7] (He.glo_ok X G (c.fact 67 (f := .glo "PRIMES") rfl)) (Bool.and_eq_true_iff.mp cx).2
  have g_MAX_POWER : Glb M "MAX_POWER" c_MAX_POWER := glb_int (He.int_ok X G (c.fact 68 (f := .int "MAX_POWER" 60) rfl))
  have o_is_whole : FnOk M.P M.w M.K M.mg M.base (L2.CX M.P M.w) 1 (He.ga K "is_whole") d_is_whole P_is_whole (spD M.G 1 f_is_whole) := fn_ok (M := M) D_is_whole sc_is_whole rfl fun W => b_is_whole M m_int m_isinstance m_bool W
  have h_is_whole : Has M "is_whole" 1 P_is_whole [] (spD M.G 1 f_is_whole) := ⟨_, _, [], o_is_whole, (He.glo_ok X G (c.fact 0 (f := .glo "is_whole") rfl)), D_is_whole.kp, D_is_whole.bindsN fun _ _ _ _ _ _ us hl => match us, hl with | [_], _ => rfl, .nil⟩
  have o_undone_number : FnOk M.P M.w M.K M.mg M.base (L2.CX M.P M.w) 1 (He.ga K "undone_number") d_undone_number P_undone_number (spD M.G 2 f_undone_number) := fn_ok (M := M) D_undone_number sc_undone_number rfl fun W => b_undone_number M  W
  have h_undone_number : Has M "undone_number" 1 P_undone_number [] (spD M.G 2 f_undone_number) := ⟨_, _, [], o_undone_number, (He.glo_ok X G (c.fact 1 (f := .glo "undone_number") rfl)), D_undone_number.kp, D_undone_number.bindsN fun _ _ _ _ _ _ us hl => match us, hl with | [_, _], _ => rfl, .nil⟩
  have o_trimmed : FnOk M.P M.w M.K M.mg M.base (L2.CX M.P M.w) 1 (He.ga K "trimmed") d_trimmed P_trimmed (spD M.G 2 f_trimmed) := fn_ok (M := M) D_trimmed sc_trimmed rfl fun W => b_trimmed M m_tuple W
  have h_trimmed : Has M "trimmed" 1 P_trimmed [] (spD M.G 2 f_trimmed) := ⟨_, _, [], o_trimmed, (He.glo_ok X G (c.fact 2 (f := .glo "trimmed") rfl)), D_trimmed.kp, D_trimmed.bindsN fun _ _ _ _ _ _ us hl => match us, hl with | [_, _], _ => rfl, .nil⟩
  have o_number_at : FnOk M.P M.w M.K M.mg M.base (L2.CX M.P M.w) 1 (He.ga K "number_at") d_number_at P_number_at (spD M.G 2 f_number_at) := fn_ok (M := M) D_number_at sc_number_at rfl fun W => b_number_at M m_len W
  have h_number_at : Has M "number_at" 1 P_number_at [] (spD M.G 2 f_number_at) := ⟨_, _, [], o_number_at, (He.glo_ok X G (c.fact 3 (f := .glo "number_at") rfl)), D_number_at.kp, D_number_at.bindsN fun _ _ _ _ _ _ us hl => match us, hl with | [_, _], _ => rfl, .nil⟩
  have o_value_in : FnOk M.P M.w M.K M.mg M.base (L2.CX M.P M.w) 1 (He.ga K "value_in") d_value_in P_value_in (spD M.G 3 f_value_in) := fn_ok (M := M) D_value_in sc_value_in rfl fun W => b_value_in M  W
  have h_value_in : Has M "value_in" 1 P_value_in [] (spD M.G 3 f_value_in) := ⟨_, _, [], o_value_in, (He.glo_ok X G (c.fact 4 (f := .glo "value_in") rfl)), D_value_in.kp, D_value_in.bindsN fun _ _ _ _ _ _ us hl => match us, hl with | [_, _, _], _ => rfl, .nil⟩
  have o__law_bag : FnOk M.P M.w M.K M.mg M.base (L2.CX M.P M.w) 1 (He.ga K "_law_bag") d__law_bag P__law_bag (spF M.G 2 f__law_bag) := fn_okL (M := M) D__law_bag sc__law_bag rfl fun W => b__law_bag M m_len m_abs m_int m_max W
  have h__law_bag : Has M "_law_bag" 1 P__law_bag [] (spF M.G 2 f__law_bag) := ⟨_, _, [], o__law_bag, (He.glo_ok X G (c.fact 5 (f := .glo "_law_bag") rfl)), D__law_bag.kp, D__law_bag.bindsN fun _ _ _ _ _ _ us hl => match us, hl with | [_, _], _ => rfl, .nil⟩
  have o__law_grab : FnOk M.P M.w M.K M.mg M.base (L2.CX M.P M.w) 1 (He.ga K "_law_grab") d__law_grab P__law_grab (spD M.G 2 f__law_grab) := fn_ok (M := M) D__law_grab sc__law_grab rfl fun W => b__law_grab M m_int W
  have h__law_grab : Has M "_law_grab" 1 P__law_grab [] (spD M.G 2 f__law_grab) := ⟨_, _, [], o__law_grab, (He.glo_ok X G (c.fact 6 (f := .glo "_law_grab") rfl)), D__law_grab.kp, D__law_grab.bindsN fun _ _ _ _ _ _ us hl => match us, hl with | [_, _], _ => rfl, .nil⟩
  have o__law_po_cut : FnOk M.P M.w M.K M.mg M.base (L2.CX M.P M.w) 1 (He.ga K "_law_po_cut") d__law_po_cut P__law_po_cut (spD M.G 1 f__law_po_cut) := fn_ok (M := M) D__law_po_cut sc__law_po_cut rfl fun W => b__law_po_cut M m_len m_range m_tuple W
  have h__law_po_cut : Has M "_law_po_cut" 1 P__law_po_cut [] (spD M.G 1 f__law_po_cut) := ⟨_, _, [], o__law_po_cut, (He.glo_ok X G (c.fact 7 (f := .glo "_law_po_cut") rfl)), D__law_po_cut.kp, D__law_po_cut.bindsN fun _ _ _ _ _ _ us hl => match us, hl with | [_], _ => rfl, .nil⟩
  have o__law_po_inverse : FnOk M.P M.w M.K M.mg M.base (L2.CX M.P M.w) 1 (He.ga K "_law_po_inverse") d__law_po_inverse P__law_po_inverse (spD M.G 2 f__law_po_inverse) := fn_ok (M := M) D__law_po_inverse sc__law_po_inverse rfl fun W => b__law_po_inverse M m_range m_int W
  have h__law_po_inverse : Has M "_law_po_inverse" 1 P__law_po_inverse [] (spD M.G 2 f__law_po_inverse) := ⟨_, _, [], o__law_po_inverse, (He.glo_ok X G (c.fact 8 (f := .glo "_law_po_inverse") rfl)), D__law_po_inverse.kp, D__law_po_inverse.bindsN fun _ _ _ _ _ _ us hl => match us, hl with | [_, _], _ => rfl, .nil⟩
  have o__law_po_at : FnOk M.P M.w M.K M.mg M.base (L2.CX M.P M.w) 1 (He.ga K "_law_po_at") d__law_po_at P__law_po_at (spD M.G 3 f__law_po_at) := fn_ok (M := M) D__law_po_at sc__law_po_at rfl fun W => b__law_po_at M m_int W
  have h__law_po_at : Has M "_law_po_at" 1 P__law_po_at [] (spD M.G 3 f__law_po_at) := ⟨_, _, [], o__law_po_at, (He.glo_ok X G (c.fact 9 (f := .glo "_law_po_at") rfl)), D__law_po_at.kp, D__law_po_at.bindsN fun _ _ _ _ _ _ us hl => match us, hl with | [_, _, _], _ => rfl, .nil⟩
  have o__law_is_poly_here : FnOk M.P M.w M.K M.mg M.base (L2.CX M.P M.w) 1 (He.ga K "_law_is_poly_here") d__law_is_poly_here P__law_is_poly_here (spD M.G 2 f__law_is_poly_here) := fn_ok (M := M) D__law_is_poly_here sc__law_is_poly_here rfl fun W => b__law_is_poly_here M m_tuple m_isinstance m_len m_bool m_int W
  have h__law_is_poly_here : Has M "_law_is_poly_here" 1 P__law_is_poly_here [] (spD M.G 2 f__law_is_poly_here) := ⟨_, _, [], o__law_is_poly_here, (He.glo_ok X G (c.fact 10 (f := .glo "_law_is_poly_here") rfl)), D__law_is_poly_here.kp, D__law_is_poly_here.bindsN fun _ _ _ _ _ _ us hl => match us, hl with | [_, _], _ => rfl, .nil⟩
  have o_is_integer : FnOk M.P M.w M.K M.mg M.base (L2.CX M.P M.w) 2 (He.ga K "is_integer") d_is_integer P_is_integer (spD M.G 1 f_is_integer) := fn_ok (M := M) D_is_integer sc_is_integer rfl fun W => b_is_integer M h_is_whole g_MOST_FIGURES W
  have h_is_integer : Has M "is_integer" 2 P_is_integer [] (spD M.G 1 f_is_integer) := ⟨_, _, [], o_is_integer, (He.glo_ok X G (c.fact 11 (f := .glo "is_integer") rfl)), D_is_integer.kp, D_is_integer.bindsN fun _ _ _ _ _ _ us hl => match us, hl with | [_], _ => rfl, .nil⟩
  have o_is_within : FnOk M.P M.w M.K M.mg M.base (L2.CX M.P M.w) 2 (He.ga K "is_within") d_is_within P_is_within (spD M.G 3 f_is_within) := fn_ok (M := M) D_is_within sc_is_within rfl fun W => b_is_within M h_is_whole W
  have h_is_within : Has M "is_within" 2 P_is_within [] (spD M.G 3 f_is_within) := ⟨_, _, [], o_is_within, (He.glo_ok X G (c.fact 12 (f := .glo "is_within") rfl)), D_is_within.kp, D_is_within.bindsN fun _ _ _ _ _ _ us hl => match us, hl with | [_, _, _], _ => rfl, .nil⟩
  have o_require_prime : FnOk M.P M.w M.K M.mg M.base (L2.CX M.P M.w) 2 (He.ga K "require_prime") d_require_prime P_require_prime (spD M.G 1 f_require_prime) := fn_ok (M := M) D_require_prime sc_require_prime rfl fun W => b_require_prime M h_is_whole g_PRIMES W
  have h_require_prime : Has M "require_prime" 2 P_require_prime [] (spD M.G 1 f_require_prime) := ⟨_, _, [], o_require_prime, (He.glo_ok X G (c.fact 13 (f := .glo "require_prime") rfl)), D_require_prime.kp, D_require_prime.bindsN fun _ _ _ _ _ _ us hl => match us, hl with | [_], _ => rfl, .nil⟩
  have o_plus_in : FnOk M.P M.w M.K M.mg M.base (L2.CX M.P M.w) 2 (He.ga K "plus_in") d_plus_in P_plus_in (spD M.G 4 f_plus_in) := fn_ok (M := M) D_plus_in sc_plus_in rfl fun W => b_plus_in M h_number_at h_trimmed m_len m_max m_range W
  have h_plus_in : Has M "plus_in" 2 P_plus_in [] (spD M.G 4 f_plus_in) := ⟨_, _, [], o_plus_in, (He.glo_ok X G (c.fact 14 (f := .glo "plus_in") rfl)), D_plus_in.kp, D_plus_in.bindsN fun _ _ _ _ _ _ us hl => match us, hl with | [_, _, _, _], _ => rfl, .nil⟩
  have o_times_in : FnOk M.P M.w M.K M.mg M.base (L2.CX M.P M.w) 2 (He.ga K "times_in") d_times_in P_times_in (spD M.G 3 f_times_in) := fn_ok (M := M) D_times_in sc_times_in rfl fun W => b_times_in M h_trimmed m_len m_range m_enumerate W
  have h_times_in : Has M "times_in" 2 P_times_in [] (spD M.G 3 f_times_in) := ⟨_, _, [], o_times_in, (He.glo_ok X G (c.fact 15 (f := .glo "times_in") rfl)), D_times_in.kp, D_times_in.bindsN fun _ _ _ _ _ _ us hl => match us, hl with | [_, _, _], _ => rfl, .nil⟩
  have o_scaled_poly : FnOk M.P M.w M.K M.mg M.base (L2.CX M.P M.w) 2 (He.ga K "scaled_poly") d_scaled_poly P_scaled_poly (spD M.G 3 f_scaled_poly) := fn_ok (M := M) D_scaled_poly sc_scaled_poly rfl fun W => b_scaled_poly M h_trimmed W
  have h_scaled_poly : Has M "scaled_poly" 2 P_scaled_poly [] (spD M.G 3 f_scaled_poly) := ⟨_, _, [], o_scaled_poly, (He.glo_ok X G (c.fact 16 (f := .glo "scaled_poly") rfl)), D_scaled_poly.kp, D_scaled_poly.bindsN fun _ _ _ _ _ _ us hl => match us, hl with | [_, _, _], _ => rfl, .nil⟩
  have o_divided_in : FnOk M.P M.w M.K M.mg M.base (L2.CX M.P M.w) 2 (He.ga K "divided_in") d_divided_in P_divided_in (spD M.G 3 f_divided_in) := fn_ok (M := M) D_divided_in sc_divided_in rfl fun W => b_divided_in M h_undone_number h_trimmed m_len m_range m_enumerate W
  have h_divided_in : Has M "divided_in" 2 P_divided_in [] (spD M.G 3 f_divided_in) := ⟨_, _, [], o_divided_in, (He.glo_ok X G (c.fact 17 (f := .glo "divided_in") rfl)), D_divided_in.kp, D_divided_in.bindsN fun _ _ _ _ _ _ us hl => match us, hl with | [_, _, _], _ => rfl, .nil⟩
  have o_slope_of_poly : FnOk M.P M.w M.K M.mg M.base (L2.CX M.P M.w) 2 (He.ga K "slope_of_poly") d_slope_of_poly P_slope_of_poly (spD M.G 2 f_slope_of_poly) := fn_ok (M := M) D_slope_of_poly sc_slope_of_poly rfl fun W => b_slope_of_poly M h_trimmed m_enumerate W
  have h_slope_of_poly : Has M "slope_of_poly" 2 P_slope_of_poly [] (spD M.G 2 f_slope_of_poly) := ⟨_, _, [], o_slope_of_poly, (He.glo_ok X G (c.fact 18 (f := .glo "slope_of_poly") rfl)), D_slope_of_poly.kp, D_slope_of_poly.bindsN fun _ _ _ _ _ _ us hl => match us, hl with | [_, _], _ => rfl, .nil⟩
  have o__law_one_of : FnOk M.P M.w M.K M.mg M.base (L2.CX M.P M.w) 2 (He.ga K "_law_one_of") d__law_one_of P__law_one_of (spD M.G 2 f__law_one_of) := fn_ok (M := M) D__law_one_of sc__law_one_of rfl fun W => b__law_one_of M h__law_grab m_len W
  have h__law_one_of : Has M "_law_one_of" 2 P__law_one_of [] (spD M.G 2 f__law_one_of) := ⟨_, _, [], o__law_one_of, (He.glo_ok X G (c.fact 19 (f := .glo "_law_one_of") rfl)), D__law_one_of.kp, D__law_one_of.bindsN fun _ _ _ _ _ _ us hl => match us, hl with | [_, _], _ => rfl, .nil⟩
  have o__law_poly_drawn : FnOk M.P M.w M.K M.mg M.base (L2.CX M.P M.w) 2 (He.ga K "_law_poly_drawn") d__law_poly_drawn P__law_poly_drawn (spD M.G 3 f__law_poly_drawn) := fn_ok (M := M) D__law_poly_drawn sc__law_poly_drawn rfl fun W => b__law_poly_drawn M h__law_grab m_range m_tuple W
  have h__law_poly_drawn : Has M "_law_poly_drawn" 2 P__law_poly_drawn [] (spD M.G 3 f__law_poly_drawn) := ⟨_, _, [], o__law_poly_drawn, (He.glo_ok X G (c.fact 20 (f := .glo "_law_poly_drawn") rfl)), D__law_poly_drawn.kp, D__law_poly_drawn.bindsN fun _ _ _ _ _ _ us hl => match us, hl with | [_, _, _], _ => rfl, .nil⟩
  have o__law_po_sum : FnOk M.P M.w M.K M.mg M.base (L2.CX M.P M.w) 2 (He.ga K "_law_po_sum") d__law_po_sum P__law_po_sum (spD M.G 4 f__law_po_sum) := fn_ok (M := M) D__law_po_sum sc__law_po_sum rfl fun W => b__law_po_sum M h__law_po_cut m_len m_max m_list m_zip m_int W
  have h__law_po_sum : Has M "_law_po_sum" 2 P__law_po_sum [] (spD M.G 4 f__law_po_sum) := ⟨_, _, [], o__law_po_sum, (He.glo_ok X G (c.fact 21 (f := .glo "_law_po_sum") rfl)), D__law_po_sum.kp, D__law_po_sum.bindsN fun _ _ _ _ _ _ us hl => match us, hl with | [_, _, _, _], _ => rfl, .nil⟩
  have o__law_po_times : FnOk M.P M.w M.K M.mg M.base (L2.CX M.P M.w) 2 (He.ga K "_law_po_times") d__law_po_times P__law_po_times (spD M.G 3 f__law_po_times) := fn_ok (M := M) D__law_po_times sc__law_po_times rfl fun W => b__law_po_times M h__law_po_cut m_int W
  have h__law_po_times : Has M "_law_po_times" 2 P__law_po_times [] (spD M.G 3 f__law_po_times) := ⟨_, _, [], o__law_po_times, (He.glo_ok X G (c.fact 22 (f := .glo "_law_po_times") rfl)), D__law_po_times.kp, D__law_po_times.bindsN fun _ _ _ _ _ _ us hl => match us, hl with | [_, _, _], _ => rfl, .nil⟩
  have o__law_po_product : FnOk M.P M.w M.K M.mg M.base (L2.CX M.P M.w) 2 (He.ga K "_law_po_product") d__law_po_product P__law_po_product (spD M.G 3 f__law_po_product) := fn_ok (M := M) D__law_po_product sc__law_po_product rfl fun W => b__law_po_product M h__law_po_cut m_len m_enumerate m_int W
  have h__law_po_product : Has M "_law_po_product" 2 P__law_po_product [] (spD M.G 3 f__law_po_product) := ⟨_, _, [], o__law_po_product, (He.glo_ok X G (c.fact 23 (f := .glo "_law_po_product") rfl)), D__law_po_product.kp, D__law_po_product.bindsN fun _ _ _ _ _ _ us hl => match us, hl with | [_, _, _], _ => rfl, .nil⟩
  have o__law_po_division : FnOk M.P M.w M.K M.mg M.base (L2.CX M.P M.w) 2 (He.ga K "_law_po_division") d__law_po_division P__law_po_division (spD M.G 3 f__law_po_division) := fn_ok (M := M) D__law_po_division sc__law_po_division rfl fun W => b__law_po_division M h__law_po_inverse h__law_po_cut m_list m_len m_max m_range m_int m_enumerate W
  have h__law_po_division : Has M "_law_po_division" 2 P__law_po_division [] (spD M.G 3 f__law_po_division) := ⟨_, _, [], o__law_po_division, (He.glo_ok X G (c.fact 24 (f := .glo "_law_po_division") rfl)), D__law_po_division.kp, D__law_po_division.bindsN fun _ _ _ _ _ _ us hl => match us, hl with | [_, _, _], _ => rfl, .nil⟩
  have o__law_po_slope : FnOk M.P M.w M.K M.mg M.base (L2.CX M.P M.w) 2 (He.ga K "_law_po_slope") d__law_po_slope P__law_po_slope (spD M.G 2 f__law_po_slope) := fn_ok (M := M) D__law_po_slope sc__law_po_slope rfl fun W => b__law_po_slope M h__law_po_cut m_enumerate m_int W
  have h__law_po_slope : Has M "_law_po_slope" 2 P__law_po_slope [] (spD M.G 2 f__law_po_slope) := ⟨_, _, [], o__law_po_slope, (He.glo_ok X G (c.fact 25 (f := .glo "_law_po_slope") rfl)), D__law_po_slope.kp, D__law_po_slope.bindsN fun _ _ _ _ _ _ us hl => match us, hl with | [_, _], _ => rfl, .nil⟩
  have o_require_within : FnOk M.P M.w M.K M.mg M.base (L2.CX M.P M.w) 3 (He.ga K "require_within") d_require_within P_require_within (spD M.G 3 f_require_within) := fn_ok (M := M) D_require_within sc_require_within rfl fun W => b_require_within M h_is_within W
  have h_require_within : Has M "require_within" 3 P_require_within [] (spD M.G 3 f_require_within) := ⟨_, _, [], o_require_within, (He.glo_ok X G (c.fact 26 (f := .glo "require_within") rfl)), D_require_within.kp, D_require_within.bindsN fun _ _ _ _ _ _ us hl => match us, hl with | [_, _, _], _ => rfl, .nil⟩
  have o_require_integer : FnOk M.P M.w M.K M.mg M.base (L2.CX M.P M.w) 3 (He.ga K "require_integer") d_require_integer P_require_integer (spD M.G 1 f_require_integer) := fn_ok (M := M) D_require_integer sc_require_integer rfl fun W => b_require_integer M h_is_integer W
  have h_require_integer : Has M "require_integer" 3 P_require_integer [] (spD M.G 1 f_require_integer) := ⟨_, _, [], o_require_integer, (He.glo_ok X G (c.fact 27 (f := .glo "require_integer") rfl)), D_require_integer.kp, D_require_integer.bindsN fun _ _ _ _ _ _ us hl => match us, hl with | [_], _ => rfl, .nil⟩
  have o_is_poly_any : FnOk M.P M.w M.K M.mg M.base (L2.CX M.P M.w) 3 (He.ga K "is_poly_any") d_is_poly_any P_is_poly_any (spD M.G 2 f_is_poly_any) := fn_ok (M := M) D_is_poly_any sc_is_poly_any rfl fun W => b_is_poly_any M h_is_within m_tuple m_isinstance m_all W
  have h_is_poly_any : Has M "is_poly_any" 3 P_is_poly_any [] (spD M.G 2 f_is_poly_any) := ⟨_, _, [], o_is_poly_any, (He.glo_ok X G (c.fact 28 (f := .glo "is_poly_any") rfl)), D_is_poly_any.kp, D_is_poly_any.bindsN fun _ _ _ _ _ _ us hl => match us, hl with | [_, _], _ => rfl, .nil⟩
  have o_monic_in : FnOk M.P M.w M.K M.mg M.base (L2.CX M.P M.w) 3 (He.ga K "monic_in") d_monic_in P_monic_in (spD M.G 2 f_monic_in) := fn_ok (M := M) D_monic_in sc_monic_in rfl fun W => b_monic_in M h_undone_number h_scaled_poly W
  have h_monic_in : Has M "monic_in" 3 P_monic_in [] (spD M.G 2 f_monic_in) := ⟨_, _, [], o_monic_in, (He.glo_ok X G (c.fact 29 (f := .glo "monic_in") rfl)), D_monic_in.kp, D_monic_in.bindsN fun _ _ _ _ _ _ us hl => match us, hl with | [_, _], _ => rfl, .nil⟩
  have o_paper_in : FnOk M.P M.w M.K M.mg M.base (L2.CX M.P M.w) 3 (He.ga K "paper_in") d_paper_in P_paper_in (spD M.G 3 f_paper_in) := fn_ok (M := M) D_paper_in sc_paper_in rfl fun W => b_paper_in M h_divided_in h_times_in h_plus_in h_undone_number h_scaled_poly m_tuple W
  have h_paper_in : Has M "paper_in" 3 P_paper_in [] (spD M.G 3 f_paper_in) := ⟨_, _, [], o_paper_in, (He.glo_ok X G (c.fact 30 (f := .glo "paper_in") rfl)), D_paper_in.kp, D_paper_in.bindsN fun _ _ _ _ _ _ us hl => match us, hl with | [_, _, _], _ => rfl, .nil⟩
  have o_raised_in : FnOk M.P M.w M.K M.mg M.base (L2.CX M.P M.w) 3 (He.ga K "raised_in") d_raised_in P_raised_in (spD M.G 3 f_raised_in) := fn_ok (M := M) D_raised_in sc_raised_in rfl fun W => b_raised_in M h_times_in W
  have h_raised_in : Has M "raised_in" 3 P_raised_in [] (spD M.G 3 f_raised_in) := ⟨_, _, [], o_raised_in, (He.glo_ok X G (c.fact 31 (f := .glo "raised_in") rfl)), D_raised_in.kp, D_raised_in.bindsN fun _ _ _ _ _ _ us hl => match us, hl with | [_, _, _], _ => rfl, .nil⟩
  have o__law_po_monic : FnOk M.P M.w M.K M.mg M.base (L2.CX M.P M.w) 3 (He.ga K "_law_po_monic") d__law_po_monic P__law_po_monic (spD M.G 2 f__law_po_monic) := fn_ok (M := M) D__law_po_monic sc__law_po_monic rfl fun W => b__law_po_monic M h__law_po_inverse h__law_po_times m_len W
  have h__law_po_monic : Has M "_law_po_monic" 3 P__law_po_monic [] (spD M.G 2 f__law_po_monic) := ⟨_, _, [], o__law_po_monic, (He.glo_ok X G (c.fact 32 (f := .glo "_law_po_monic") rfl)), D__law_po_monic.kp, D__law_po_monic.bindsN fun _ _ _ _ _ _ us hl => match us, hl with | [_, _], _ => rfl, .nil⟩
  have o__law_po_power : FnOk M.P M.w M.K M.mg M.base (L2.CX M.P M.w) 3 (He.ga K "_law_po_power") d__law_po_power P__law_po_power (spD M.G 3 f__law_po_power) := fn_ok (M := M) D__law_po_power sc__law_po_power rfl fun W => b__law_po_power M h__law_po_product m_range W
  have h__law_po_power : Has M "_law_po_power" 3 P__law_po_power [] (spD M.G 3 f__law_po_power) := ⟨_, _, [], o__law_po_power, (He.glo_ok X G (c.fact 33 (f := .glo "_law_po_power") rfl)), D__law_po_power.kp, D__law_po_power.bindsN fun _ _ _ _ _ _ us hl => match us, hl with | [_, _, _], _ => rfl, .nil⟩
  have o_require_poly : FnOk M.P M.w M.K M.mg M.base (L2.CX M.P M.w) 4 (He.ga K "require_poly") d_require_poly P_require_poly (spD M.G 2 f_require_poly) := fn_ok (M := M) D_require_poly sc_require_poly rfl fun W => b_require_poly M h_is_poly_any m_len g_MAX_POWER W
  have h_require_poly : Has M "require_poly" 4 P_require_poly [] (spD M.G 2 f_require_poly) := ⟨_, _, [], o_require_poly, (He.glo_ok X G (c.fact 34 (f := .glo "require_poly") rfl)), D_require_poly.kp, D_require_poly.bindsN fun _ _ _ _ _ _ us hl => match us, hl with | [_, _], _ => rfl, .nil⟩
  have o_common_in : FnOk M.P M.w M.K M.mg M.base (L2.CX M.P M.w) 4 (He.ga K "common_in") d_common_in P_common_in (spD M.G 3 f_common_in) := fn_ok (M := M) D_common_in sc_common_in rfl fun W => b_common_in M h_divided_in h_monic_in W
  have h_common_in : Has M "common_in" 4 P_common_in [] (spD M.G 3 f_common_in) := ⟨_, _, [], o_common_in, (He.glo_ok X G (c.fact 35 (f := .glo "common_in") rfl)), D_common_in.kp, D_common_in.bindsN fun _ _ _ _ _ _ us hl => match us, hl with | [_, _, _], _ => rfl, .nil⟩
  have o_is_poly : FnOk M.P M.w M.K M.mg M.base (L2.CX M.P M.w) 4 (He.ga K "is_poly") d_is_poly P_is_poly (spD M.G 2 f_is_poly) := fn_ok (M := M) D_is_poly sc_is_poly rfl fun W => b_is_poly M h_require_prime h_is_poly_any m_len g_MAX_POWER W
  have h_is_poly : Has M "is_poly" 4 P_is_poly [] (spD M.G 2 f_is_poly) := ⟨_, _, [], o_is_poly, (He.glo_ok X G (c.fact 36 (f := .glo "is_poly") rfl)), D_is_poly.kp, D_is_poly.bindsN fun _ _ _ _ _ _ us hl => match us, hl with | [_, _], _ => rfl, .nil⟩
  have o__law_po_common : FnOk M.P M.w M.K M.mg M.base (L2.CX M.P M.w) 4 (He.ga K "_law_po_common") d__law_po_common P__law_po_common (spD M.G 3 f__law_po_common) := fn_ok (M := M) D__law_po_common sc__law_po_common rfl fun W => b__law_po_common M h__law_po_division h__law_po_monic m_len m_range W
  have h__law_po_common : Has M "_law_po_common" 4 P__law_po_common [] (spD M.G 3 f__law_po_common) := ⟨_, _, [], o__law_po_common, (He.glo_ok X G (c.fact 37 (f := .glo "_law_po_common") rfl)), D__law_po_common.kp, D__law_po_common.bindsN fun _ _ _ _ _ _ us hl => match us, hl with | [_, _, _], _ => rfl, .nil⟩
  have o_require_two : FnOk M.P M.w M.K M.mg M.base (L2.CX M.P M.w) 5 (He.ga K "require_two") d_require_two P_require_two (spD M.G 3 f_require_two) := fn_ok (M := M) D_require_two sc_require_two rfl fun W => b_require_two M h_require_prime h_require_poly W
  have h_require_two : Has M "require_two" 5 P_require_two [] (spD M.G 3 f_require_two) := ⟨_, _, [], o_require_two, (He.glo_ok X G (c.fact 38 (f := .glo "require_two") rfl)), D_require_two.kp, D_require_two.bindsN fun _ _ _ _ _ _ us hl => match us, hl with | [_, _, _], _ => rfl, .nil⟩
  have o_poly_power : FnOk M.P M.w M.K M.mg M.base (L2.CX M.P M.w) 5 (He.ga K "poly_power") d_poly_power P_poly_power (spD M.G 3 f_poly_power) := fn_ok (M := M) D_poly_power sc_poly_power rfl fun W => b_poly_power M h_require_prime h_require_poly h_require_within h_raised_in g_MAX_POWER W
  have h_poly_power : Has M "poly_power" 5 P_poly_power [] (spD M.G 3 f_poly_power) := ⟨_, _, [], o_poly_power, (He.glo_ok X G (c.fact 39 (f := .glo "poly_power") rfl)), D_poly_power.kp, D_poly_power.bindsN fun _ _ _ _ _ _ us hl => match us, hl with | [_, _, _], _ => rfl, .nil⟩
  have o_poly_slope : FnOk M.P M.w M.K M.mg M.base (L2.CX M.P M.w) 5 (He.ga K "poly_slope") d_poly_slope P_poly_slope (spD M.G 2 f_poly_slope) := fn_ok (M := M) D_poly_slope sc_poly_slope rfl fun W => b_poly_slope M h_require_prime h_require_poly h_slope_of_poly W
  have h_poly_slope : Has M "poly_slope" 5 P_poly_slope [] (spD M.G 2 f_poly_slope) := ⟨_, _, [], o_poly_slope, (He.glo_ok X G (c.fact 40 (f := .glo "poly_slope") rfl)), D_poly_slope.kp, D_poly_slope.bindsN fun _ _ _ _ _ _ us hl => match us, hl with | [_, _], _ => rfl, .nil⟩
  have o_poly_at : FnOk M.P M.w M.K M.mg M.base (L2.CX M.P M.w) 5 (He.ga K "poly_at") d_poly_at P_poly_at (spD M.G 3 f_poly_at) := fn_ok (M := M) D_poly_at sc_poly_at rfl fun W => b_poly_at M h_require_prime h_require_poly h_require_integer h_value_in W
  have h_poly_at : Has M "poly_at" 5 P_poly_at [] (spD M.G 3 f_poly_at) := ⟨_, _, [], o_poly_at, (He.glo_ok X G (c.fact 41 (f := .glo "poly_at") rfl)), D_poly_at.kp, D_poly_at.bindsN fun _ _ _ _ _ _ us hl => match us, hl with | [_, _, _], _ => rfl, .nil⟩
  have o__law_is_paper_right : FnOk M.P M.w M.K M.mg M.base (L2.CX M.P M.w) 5 (He.ga K "_law_is_paper_right") d__law_is_paper_right P__law_is_paper_right (spD M.G 4 f__law_is_paper_right) := fn_ok (M := M) D__law_is_paper_right sc__law_is_paper_right rfl fun W => b__law_is_paper_right M h__law_po_common h__law_po_cut h__law_po_product h__law_po_sum m_tuple m_isinstance m_len m_int W
  have h__law_is_paper_right : Has M "_law_is_paper_right" 5 P__law_is_paper_right [] (spD M.G 4 f__law_is_paper_right) := ⟨_, _, [], o__law_is_paper_right, (He.glo_ok X G (c.fact 42 (f := .glo "_law_is_paper_right") rfl)), D__law_is_paper_right.kp, D__law_is_paper_right.bindsN fun _ _ _ _ _ _ us hl => match us, hl with | [_, _, _, _], _ => rfl, .nil⟩
  have o_poly_sum : FnOk M.P M.w M.K M.mg M.base (L2.CX M.P M.w) 6 (He.ga K "poly_sum") d_poly_sum P_poly_sum (spD M.G 4 f_poly_sum) := fn_ok (M := M) D_poly_sum sc_poly_sum rfl fun W => b_poly_sum M h_require_two h_require_integer h_plus_in W
  obtain ⟨dv_poly_sum, vd_poly_sum, bd_poly_sum⟩ := D_poly_sum.binds0 (ps := P_poly_sum) 3 (by simp [He.DefD.kws, mkD]) rfl fun D doc pm an cdv ct us ks hl hk => match us, ks, hl, hk with | [_, _, _], [_], _, _ => ⟨_, _, _, _, _, _, rfl, rfl, rfl⟩
  have h_poly_sum : Has M "poly_sum" 6 P_poly_sum [.int 1] (spD M.G 4 f_poly_sum) := ⟨_, _, dv_poly_sum, o_poly_sum, (He.glo_ok X G (c.fact 43 (f := .glo "poly_sum") rfl)), D_poly_sum.kp, bd_poly_sum, vd_poly_sum⟩
  obtain ⟨_, kb_poly_sum⟩ := D_poly_sum.kbinds0 (ps := P_poly_sum) 3 ["times"] [] (fun us _ ws => us ++ ws) (by simp [He.DefD.kws, mkD]) (by simp) (fun r1 _ r3 => r1.append r3) fun D doc pm an cdv ct us mv ws hl hm hw => match us, mv, ws, hl, hm, hw with | [_, _, _], [], [_], _, _, _ => rfl
  have hk_poly_sum : HasK M "poly_sum" 6 P_poly_sum 3 ["times"] (spD M.G 4 f_poly_sum) := ⟨_, _, o_poly_sum, (He.glo_ok X G (c.fact 43 (f := .glo "poly_sum") rfl)), D_poly_sum.kp, kb_poly_sum⟩
  have o_poly_product : FnOk M.P M.w M.K M.mg M.base (L2.CX M.P M.w) 6 (He.ga K "poly_product") d_poly_product P_poly_product (spD M.G 3 f_poly_product) := fn_ok (M := M) D_poly_product sc_poly_product rfl fun W => b_poly_product M h_require_two h_times_in W
  have h_poly_product : Has M "poly_product" 6 P_poly_product [] (spD M.G 3 f_poly_product) := ⟨_, _, [], o_poly_product, (He.glo_ok X G (c.fact 44 (f := .glo "poly_product") rfl)), D_poly_product.kp, D_poly_product.bindsN fun _ _ _ _ _ _ us hl => match us, hl with | [_, _, _], _ => rfl, .nil⟩
  have o_poly_division : FnOk M.P M.w M.K M.mg M.base (L2.CX M.P M.w) 6 (He.ga K "poly_division") d_poly_division P_poly_division (spD M.G 3 f_poly_division) := fn_ok (M := M) D_poly_division sc_poly_division rfl fun W => b_poly_division M h_require_two h_divided_in W
  have h_poly_division : Has M "poly_division" 6 P_poly_division [] (spD M.G 3 f_poly_division) := ⟨_, _, [], o_poly_division, (He.glo_ok X G (c.fact 45 (f := .glo "poly_division") rfl)), D_poly_division.kp, D_poly_division.bindsN fun _ _ _ _ _ _ us hl => match us, hl with | [_, _, _], _ => rfl, .nil⟩
  have o_common_poly : FnOk M.P M.w M.K M.mg M.base (L2.CX M.P M.w) 6 (He.ga K "common_poly") d_common_poly P_common_poly (spD M.G 3 f_common_poly) := fn_ok (M := M) D_common_poly sc_common_poly rfl fun W => b_common_poly M h_require_two h_common_in W
  have h_common_poly : Has M "common_poly" 6 P_common_poly [] (spD M.G 3 f_common_poly) := ⟨_, _, [], o_common_poly, (He.glo_ok X G (c.fact 46 (f := .glo "common_poly") rfl)), D_common_poly.kp, D_common_poly.bindsN fun _ _ _ _ _ _ us hl => match us, hl with | [_, _, _], _ => rfl, .nil⟩
  have o_common_paper : FnOk M.P M.w M.K M.mg M.base (L2.CX M.P M.w) 6 (He.ga K "common_paper") d_common_paper P_common_paper (spD M.G 3 f_common_paper) := fn_ok (M := M) D_common_paper sc_common_paper rfl fun W => b_common_paper M h_require_two h_paper_in W
  have h_common_paper : Has M "common_paper" 6 P_common_paper [] (spD M.G 3 f_common_paper) := ⟨_, _, [], o_common_paper, (He.glo_ok X G (c.fact 47 (f := .glo "common_paper") rfl)), D_common_paper.kp, D_common_paper.bindsN fun _ _ _ _ _ _ us hl => match us, hl with | [_, _, _], _ => rfl, .nil⟩
  have o__law_sums_right : FnOk M.P M.w M.K M.mg M.base (L2.CX M.P M.w) 7 (He.ga K "_law_sums_right") d__law_sums_right P__law_sums_right (spD M.G 4 f__law_sums_right) := fn_ok (M := M) D__law_sums_right sc__law_sums_right rfl fun W => b__law_sums_right M h__law_grab h__law_one_of h_poly_sum h__law_po_sum h_poly_product h__law_po_product h_poly_power h__law_po_power h_poly_slope h__law_po_slope h_poly_at h__law_po_at hk_poly_sum m_len W
  have h__law_sums_right : Has M "_law_sums_right" 7 P__law_sums_right [] (spD M.G 4 f__law_sums_right) := ⟨_, _, [], o__law_sums_right, (He.glo_ok X G (c.fact 48 (f := .glo "_law_sums_right") rfl)), D__law_sums_right.kp, D__law_sums_right.bindsN fun _ _ _ _ _ _ us hl => match us, hl with | [_, _, _, _], _ => rfl, .nil⟩
  have o__law_quotients_right : FnOk M.P M.w M.K M.mg M.base (L2.CX M.P M.w) 7 (He.ga K "_law_quotients_right") d__law_quotients_right P__law_quotients_right (spD M.G 3 f__law_quotients_right) := fn_ok (M := M) D__law_quotients_right sc__law_quotients_right rfl fun W => b__law_quotients_right M h_poly_division h__law_po_division h_common_poly h__law_po_common h_common_paper h__law_is_paper_right W
  have h__law_quotients_right : Has M "_law_quotients_right" 7 P__law_quotients_right [] (spD M.G 3 f__law_quotients_right) := ⟨_, _, [], o__law_quotients_right, (He.glo_ok X G (c.fact 49 (f := .glo "_law_quotients_right") rfl)), D__law_quotients_right.kp, D__law_quotients_right.bindsN fun _ _ _ _ _ _ us hl => match us, hl with | [_, _, _], _ => rfl, .nil⟩
  have o__law_right : FnOk M.P M.w M.K M.mg M.base (L2.CX M.P M.w) 8 (He.ga K "_law_right") d__law_right P__law_right (spD M.G 1 f__law_right) := fn_ok (M := M) D__law_right sc__law_right rfl fun W => b__law_right M h__law_one_of h__law_poly_drawn h__law_sums_right h__law_quotients_right h__law_po_product h_is_poly h__law_is_poly_here m_len m_max m_list m_repr W
  have h__law_right : Has M "_law_right" 8 P__law_right [] (spD M.G 1 f__law_right) := ⟨_, _, [], o__law_right, (He.glo_ok X G (c.fact 50 (f := .glo "_law_right") rfl)), D__law_right.kp, D__law_right.bindsN fun _ _ _ _ _ _ us hl => match us, hl with | [_], _ => rfl, .nil⟩
  have o_law : FnOk M.P M.w M.K M.mg M.base (L2.CX M.P M.w) 9 (He.ga K "law") d_law P_law (spD M.G 1 f_law) := fn_ok (M := M) D_law sc_law rfl fun W => b_law M h__law_bag h__law_right h_poly_division h_common_poly h_common_paper m_len m_min m_max m_range W
  have h_law : Has M "law" 9 P_law [] (spD M.G 1 f_law) := ⟨_, _, [], o_law, (He.glo_ok X G (c.fact 51 (f := .glo "law") rfl)), D_law.kp, D_law.bindsN fun _ _ _ _ _ _ us hl => match us, hl with | [_], _ => rfl, .nil⟩
  exact fn_calm o_law
end Gn
open PySem PySem.W PySem.Calls PyProof.Rows
theorem PySem.Challenge.cw_slopewords_k00_whole_polynomials_holds : PySem.Challenge.rw_slopewords_k00_whole_polynomials.Holds := by
  w_on; o_law
  refine HandSHeadRun.head_any (r := OpenLaw.row PySem.Challenge.rw_slopewords_k00_whole_polynomials) (q := view (OpenLaw.row PySem.Challenge.rw_slopewords_k00_whole_polynomials).prog [61]) (H := Gn.hkk) (ob := Gn.obb) (M := 4000) (loose := Gn.loose) (d := HandSHeadRun.topDef (OpenLaw.row PySem.Challenge.rw_slopewords_k00_whole_polynomials).prog 61) (kwd := []) Gn.obb_eq
    (by kernel_rfl) (fun s => by kernel_rfl) Gn.runs (by kernel_rfl) (by kernel_rfl) (by kernel_rfl) (by rfl) (by first | assumption | decide +kernel) (by decide +kernel) ⟨rfl, rfl, rfl, rfl, rfl, by decide +kernel⟩ ?hw ?hc
  case hw => w_witness2
  case hc =>
    refine L2.walk_ofE (l := PySem.Challenge.rw_slopewords_k00_whole_polynomials) (n := 63) (k := 9) (x := "script") (CX := L2.CX0) rfl (by decide) (by kernel_rfl) ⟨rfl, by decide, by decide⟩ ?F (fun _ _ _ _ z => z)
    intro w mg fa h Y G hmg0
    obtain ⟨K, KX, c, cx⟩ := Y
    have hmg : mg ("law" : PySem.Str) = some (.ref fa) := by
      have e : (HandSHeadRun.topDef (OpenLaw.row PySem.Challenge.rw_slopewords_k00_whole_polynomials).prog 61).name = ("law" : PySem.Str) := by kernel_rfl
      rw [← e]
      exact hmg0
    obtain ⟨fd, hb, hF⟩ := Gn.facts (P := (PySem.Challenge.rw_slopewords_k00_whole_polynomials).prog) (w := w) KX G hmg c cx
    exact ⟨K, fd, (fun vs H Q _ => DS.spD ⟨K, mg⟩ 1 Gn.f_law vs H Q fun _ _ _ => False), KX, hb, fun H a ns hl _ hS => DS.law_sp (Gn.law_pure ns hl) hS, hF⟩
