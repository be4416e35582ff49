import PyProof.Rows.All
import Wide.All
import OpenK.AllK
import Wide.FinOn
import HandS.ForMost
import HandS.Exc
import HandS.Evl
import HandS.Slots
import HandS.SlotsOwn
import HandS.Lambda
import HandS.ExcOwn
import HandS.CallSlots
import HandS.Defaults
import HandS.Wide
import HandS.TupAny
import HandS.TupMul
import HandS.IsInst
import HandS.Zip
import HandS.Style
import HandS.RaiseMore
import HandS.Star
import KE.GoesMore
import KE.GoesEnum
import KE.KStateDown
import HandS.More
import HandS.MakeKwOnly
import HandS.Head0
import HandS.Head1
import HandS.Head2
import HandS.HeadEnd
import HandS.HeadHook1
import HandS.HeadHook2
import HandS.ClsMeth
import HandS.FStr
import KE.KFmtOwn
import KE.KOpsOwn
import PyProof.InstNe
import KE.KCallOwn
import PyProof.Conv_bool
import HandS.IterVal
import HandS.Text
import HandS.Flow
import PyProof.ReprRoads
import HandS.TryMany
import HandS.ExcField
import HandS.ExcBuiltin
import HandS.TryOnly
import HandS.OwnEq
import KE.KNestM
import HandS.HeadHook4
import HandS.HeadWalk
import KE.KExcLine
import KE.KSuper
import KE.KDictZip
import PyProof.CollectWalk
import PyProof.ListNew
import PyProof.NeKinds
import HandS.ExcIs
import KE.DataMinKey
import PyProof.PureInt
import PyProof.GenCompD
import PyProof.FactsGen
import HandS.AnyAll
import KE.KDictIter
import KE.KStar
import PyProof.EqAt
import KE.DataAny
import HandS.Conv
import HandS.GenList
import PySem.Challenge.RW_slopewords_k25_errors_of_operators
set_option Elab.async false
set_option linter.all false
set_option maxRecDepth 100000
set_option maxHeartbeats 0
set_option autoImplicit false
namespace DS
open PySem PySem.Spec PyProof.Rows L2
/-- data: what a value stands for, as a tree; hnd: a list of the def's own that may still change -/
inductive D where
  | non | bl (b : Bool) | int (i : Int) | str (s : Str) | ty (n : String) | glo (x : Str)
  | tup (xs : List D) | lst (xs : List D) | scr (xs : List D) | hnd (i : Nat) | dic (kvs : List (Str × D)) | obj (c : Str) (fs : List (Str × D)) | lam (j : Nat)
inductive Cell where
  | lst (xs : List D)
  | dead
  | ob (j : Nat) (c : Str) (fs : List (Str × Option D))
abbrev Sto := List Cell
structure Exc where
  cls : D
  arg : Option (Str × D)
inductive Res (a : Type) where
  | ok (x : a) (st : Sto)
  | ex (c : Exc) (st : Sto)
  | stk
def Res.bind {a b : Type} (r : Res a) (k : a → Sto → Res b) : Res b := match r with
  | .ok x st => k x st
  | .ex c st => .ex c st
  | .stk => .stk
def Res.ofO {a : Type} (o : Option a) (st : Sto) : Res a := match o with
  | some x => .ok x st
  | none => .stk
/-- what the abstract heap is: the part that stays, the addresses of the changing lists, all of it -/
structure Wd where
  I : Hp
  ph : List Addr
  H : Hp
/-- the module: the written part, its names -/
structure Md where
  K : PySem.W.Frag
  mg : Str → Option Value
  T : List (Addr × Str)
  L : Nat → Option (Addr × Addr × Str)
/-- the class at C, its slots by name and place -/
def SObj (G : Md) (C : Addr) (ns : List Str) : Prop := SlX.SCls G.K C ∧ SlX.SIsi G.K C ∧ ∀ (i : Nat) f, ns[i]? = some f → ∃ p, SlX.Slot1 G.K C f p i
inductive Rep (G : Md) (I : Hp) (ph : List Addr) : V → D → Prop
  | non : Rep G I ph .non .non
  | bl (b : Bool) : Rep G I ph (.bl b) (.bl b)
  | int (i : Int) : Rep G I ph (.int i) (.int i)
  | str (s : Str) : Rep G I ph (.str s) (.str s)
  | ty (n : String) : Rep G I ph (.ty n) (.ty n)
  | glo {x : Str} {a : Addr} : G.mg x = some (.ref a) → Rep G I ph (.ref a) (.glo x)
  | hnd {i : Nat} {a : Addr} : ph[i]? = some a → Rep G I ph (.ref a) (.hnd i)
  | tup {a : Addr} {vs : List V} {ds : List D} : SqT G.K I a vs → vs.length = ds.length → (∀ (i : Nat) v d, vs[i]? = some v → ds[i]? = some d → Rep G I ph v d) → Rep G I ph (.ref a) (.tup ds)
  | lst {a : Addr} {vs : List V} {ds : List D} : I a = some (.lst vs) → vs.length = ds.length → (∀ (i : Nat) v d, vs[i]? = some v → ds[i]? = some d → Rep G I ph v d) → Rep G I ph (.ref a) (.lst ds)
  | scr {a : Addr} {vs : List V} {ds : List D} : SqL G.K I a vs → vs.length = ds.length → (∀ (i : Nat) v d, vs[i]? = some v → ds[i]? = some d → Rep G I ph v d) → Rep G I ph (.ref a) (.scr ds)
  | dic {a : Addr} {kvs : List (Key × V)} {kds : List (Str × D)} : I a = some (.dK kvs) → kvs.length = kds.length →
      (∀ (i : Nat) p q, kvs[i]? = some p → kds[i]? = some q → p.1 = .inr q.1) → (∀ (i : Nat) p q, kvs[i]? = some p → kds[i]? = some q → Rep G I ph p.2 q.2) → Rep G I ph (.ref a) (.dic kds)
  | obj {a C dx : Addr} {c : Str} {vs : List (Option V)} {fs : List (Str × D)} : G.mg c = some (.ref C) → SObj G C (fs.map (·.1)) → I a = some (SlX.SlO a C dx vs) → I dx = some (.xd []) →
      (∀ (i : Nat) q, fs[i]? = some q → ∃ v, vs[i]? = some (some v)) → (∀ (i : Nat) v q, vs[i]? = some (some v) → fs[i]? = some q → Rep G I ph v q.2) → Rep G I ph (.ref a) (.obj c fs)
  | lam {f c : Addr} {q : Str} {j : Nat} : G.L j = some (f, c, q) → Rep G I ph (.ref f) (.lam j)
/-- item by item -/
def Reps (G : Md) (I : Hp) (ph : List Addr) (vs : List V) (ds : List D) : Prop := vs.length = ds.length ∧ ∀ (i : Nat) v d, vs[i]? = some v → ds[i]? = some d → Rep G I ph v d
section
variable {G : Md} {I I' : Hp} {ph ph' : List Addr} {v : V} {d : D} {vs ws : List V} {ds es : List D}
def Px (ph ph' : List Addr) : Prop := ∀ (i : Nat) (a : Addr), ph[i]? = some a → ph'[i]? = some a
theorem Px.refl : Px ph ph := fun _ _ h => h
theorem Px.trans {p q r : List Addr} (a : Px p q) (b : Px q r) : Px p r := fun i x h => b i x (a i x h)
theorem Px.app (p t : List Addr) : Px p (p ++ t) := fun i a h => by
  rw [List.getElem?_append_left (List.getElem?_eq_some_iff.mp h).1]
  exact h
theorem Rep.mono (e : Evl.Ex I I') (px : Px ph ph') (h : Rep G I ph v d) : Rep G I' ph' v d := by
  induction h with
  | non => exact .non
  | bl b => exact .bl b
  | int i => exact .int i
  | str s => exact .str s
  | ty n => exact .ty n
  | glo h => exact .glo h
  | hnd h => exact .hnd (px _ _ h)
  | tup h1 h2 _ ih => exact .tup (Evl.ex_t e h1) h2 ih
  | lst h1 h2 _ ih => exact .lst (e _ _ h1) h2 ih
  | scr h1 h2 _ ih => exact .scr (Evl.ex_l e h1) h2 ih
  | dic h1 h2 h3 _ ih => exact .dic (e _ _ h1) h2 h3 ih
  | obj h1 h2 h3 h4 h5 _ ih => exact .obj h1 h2 (e _ _ h3) (e _ _ h4) h5 ih
  | lam h1 => exact .lam h1
theorem Reps.mono (e : Evl.Ex I I') (px : Px ph ph') (h : Reps G I ph vs ds) : Reps G I' ph' vs ds := ⟨h.1, fun i v d a b => (h.2 i v d a b).mono e px⟩
theorem Reps.nil : Reps G I ph [] [] := ⟨rfl, fun i v d h => by simp at h⟩
theorem Reps.cons (h : Rep G I ph v d) (r : Reps G I ph vs ds) : Reps G I ph (v :: vs) (d :: ds) := by
  refine ⟨by simp [r.1], fun i x y a b => ?_⟩
  cases i with
  | zero =>
    simp at a b
    rw [← a, ← b]
    exact h
  | succ i => exact r.2 i x y (by simpa using a) (by simpa using b)
theorem Reps.inv_cons' {vs' : List V} (h : Reps G I ph vs' (d :: ds)) : ∃ v vs, vs' = v :: vs ∧ Rep G I ph v d ∧ Reps G I ph vs ds := by
  cases vs' with
  | nil => exact absurd h.1 (by simp)
  | cons v vs => exact ⟨v, vs, rfl, h.2 0 v d rfl rfl, by simpa using h.1, fun i x y a b => h.2 (i + 1) x y (by simpa using a) (by simpa using b)⟩
theorem Reps.inv_nil' {vs' : List V} (h : Reps G I ph vs' []) : vs' = [] := List.length_eq_zero_iff.mp h.1
theorem Reps.get (h : Reps G I ph vs ds) {i : Nat} (e : ds[i]? = some d) : ∃ v, vs[i]? = some v ∧ Rep G I ph v d := by
  have hi : i < vs.length := by rw [h.1]; exact (List.getElem?_eq_some_iff.mp e).1
  exact ⟨vs[i], List.getElem?_eq_getElem hi, h.2 i _ _ (List.getElem?_eq_getElem hi) e⟩
theorem Reps.none (h : Reps G I ph vs ds) {i : Nat} (e : ds[i]? = none) : vs[i]? = none := by
  rw [List.getElem?_eq_none_iff] at e ⊢
  rw [h.1]
  exact e
theorem Reps.append (h : Reps G I ph vs ds) (k : Reps G I ph ws es) : Reps G I ph (vs ++ ws) (ds ++ es) := by
  refine ⟨by simp [h.1, k.1], fun i x y a b => ?_⟩
  by_cases hi : i < vs.length
  · rw [List.getElem?_append_left hi] at a
    rw [List.getElem?_append_left (by rw [← h.1]; exact hi)] at b
    exact h.2 i x y a b
  · rw [List.getElem?_append_right (by omega)] at a
    rw [List.getElem?_append_right (by rw [← h.1]; omega)] at b
    rw [← h.1] at b
    exact k.2 _ x y a b
theorem Reps.take (n : Nat) (h : Reps G I ph vs ds) : Reps G I ph (vs.take n) (ds.take n) := by
  refine ⟨by simp [h.1], fun i x y a b => ?_⟩
  rw [List.getElem?_take] at a b
  split at a
  · rename_i q
    rw [if_pos q] at b
    exact h.2 i x y a b
  · cases a
theorem Reps.drop (n : Nat) (h : Reps G I ph vs ds) : Reps G I ph (vs.drop n) (ds.drop n) := by
  refine ⟨by simp [h.1], fun i x y a b => ?_⟩
  rw [List.getElem?_drop] at a b
  exact h.2 _ x y a b
theorem Reps.set (n : Nat) (h : Reps G I ph vs ds) (r : Rep G I ph v d) : Reps G I ph (vs.set n v) (ds.set n d) := by
  refine ⟨by simp [h.1], fun i x y a b => ?_⟩
  rw [List.getElem?_set] at a b
  by_cases hn : n = i
  · subst hn
    rw [if_pos rfl] at a b
    split at a
    · rename_i q
      rw [← h.1, if_pos q] at b
      simp at a b
      rw [← a, ← b]
      exact r
    · cases a
  · rw [if_neg hn] at a b
    exact h.2 i x y a b
theorem Reps.reverse (h : Reps G I ph vs ds) : Reps G I ph vs.reverse ds.reverse := by
  refine ⟨by simp [h.1], fun i x y a b => ?_⟩
  have hi : i < vs.length := by have := (List.getElem?_eq_some_iff.mp a).1; simpa using this
  have hj : i < ds.length := by rw [← h.1]; exact hi
  rw [List.getElem?_reverse hi] at a
  rw [List.getElem?_reverse hj, ← h.1] at b
  exact h.2 _ x y a b
theorem Reps.replicate (n : Nat) (r : Rep G I ph v d) : Reps G I ph (List.replicate n v) (List.replicate n d) := by
  refine ⟨by simp, fun i x y a b => ?_⟩
  rw [List.getElem?_replicate] at a b
  split at a
  · rename_i q
    rw [if_pos q] at b
    simp at a b
    rw [← a, ← b]
    exact r
  · cases a
theorem Rep.tup' {a : Addr} (h1 : SqT G.K I a vs) (h : Reps G I ph vs ds) : Rep G I ph (.ref a) (.tup ds) := .tup h1 h.1 h.2
theorem Rep.lst' {a : Addr} (h1 : I a = some (.lst vs)) (h : Reps G I ph vs ds) : Rep G I ph (.ref a) (.lst ds) := .lst h1 h.1 h.2
theorem Rep.tup_inv (h : Rep G I ph v (.tup ds)) : ∃ a vs, v = .ref a ∧ SqT G.K I a vs ∧ Reps G I ph vs ds := by
  cases h with
  | tup h1 h2 h3 => exact ⟨_, _, rfl, h1, h2, h3⟩
theorem Rep.lst_inv (h : Rep G I ph v (.lst ds)) : ∃ a vs, v = .ref a ∧ I a = some (.lst vs) ∧ Reps G I ph vs ds := by
  cases h with
  | lst h1 h2 h3 => exact ⟨_, _, rfl, h1, h2, h3⟩
theorem Rep.hnd_inv {i : Nat} (h : Rep G I ph v (.hnd i)) : ∃ a, v = .ref a ∧ ph[i]? = some a := by
  cases h with
  | hnd h1 => exact ⟨_, rfl, h1⟩
end
/-- an object that is being made, or changes: j the place of its own dict, fs what its slots hold -/
def ObOk (G : Md) (I H : Hp) (ph : List Addr) (a : Addr) (j : Nat) (c : Str) (fs : List (Str × Option D)) : Prop := I a = none ∧ a ∈ ph ∧ ∃ C dx vs, G.mg c = some (.ref C) ∧ SObj G C (fs.map (·.1)) ∧ dx ≠ a ∧
  ((H a = some (.ins C dx []) ∧ H dx = some (.own a) ∧ vs = []) ∨ (H a = some (SlX.SlO a C dx vs) ∧ H dx = some (.xd []))) ∧ ph[j]? = some dx ∧ I dx = none ∧
  ∀ (i : Nat) q d, fs[i]? = some q → q.2 = some d → ∃ v, vs[i]? = some (some v) ∧ Rep G I ph v d
theorem slO_lst {a C dx : Addr} {vs : List (Option V)} {xs : List V} : SlX.SlO a C dx vs ≠ .lst xs := fun z => by
  unfold SlX.SlO at z
  cases z
theorem ObOk.gen {G : Md} {I I' H H' : Hp} {ph ph' : List Addr} {a : Addr} {j : Nat} {c : Str} {fs : List (Str × Option D)} (h : ObOk G I H ph a j c fs) (ha : a ∈ ph') (hj : ∀ b, ph[j]? = some b → ph'[j]? = some b)
    (hr : ∀ (i : Nat) q d v, fs[i]? = some q → q.2 = some d → Rep G I ph v d → Rep G I' ph' v d)
    (k : ∀ b ∈ ph, ∀ o, H b = some o → (∀ xs, o ≠ .lst xs) → I b = none → H' b = some o ∧ I' b = none) : ObOk G I' H' ph' a j c fs := by
  obtain ⟨h1, h2, C, dx, vs, h3, h4, h5, h6, h7, h8, h9⟩ := h
  have hd : ∃ o, H dx = some o ∧ (∀ xs, o ≠ .lst xs) := by
    rcases h6 with ⟨_, e, _⟩ | ⟨_, e⟩
    · exact ⟨_, e, fun _ z => nomatch z⟩
    · exact ⟨_, e, fun _ z => nomatch z⟩
  have hA : ∃ o, H a = some o ∧ (∀ xs, o ≠ .lst xs) := by
    rcases h6 with ⟨e, _⟩ | ⟨e, _⟩
    · exact ⟨_, e, fun _ z => nomatch z⟩
    · exact ⟨_, e, fun _ => slO_lst⟩
  obtain ⟨od, d1, d2⟩ := hd
  obtain ⟨oa, a1, a2⟩ := hA
  obtain ⟨kd1, kd2⟩ := k dx (List.mem_of_getElem? h7) od d1 d2 h8
  obtain ⟨ka1, ka2⟩ := k a h2 oa a1 a2 h1
  refine ⟨ka2, ha, C, dx, vs, h3, h4, h5, ?_, hj _ h7, kd2, fun i q d e1 e2 => ?_⟩
  · rw [kd1, ka1, ← d1, ← a1]
    exact h6
  · obtain ⟨v, e3, r⟩ := h9 i q d e1 e2
    exact ⟨v, e3, hr i q d v e1 e2 r⟩
theorem Px.mem {ph ph' : List Addr} (p : Px ph ph') {a : Addr} (h : a ∈ ph) : a ∈ ph' := by
  obtain ⟨i, hi, e⟩ := List.mem_iff_getElem.mp h
  exact List.mem_of_getElem? (p i a (by rw [List.getElem?_eq_getElem hi, e]))
theorem ObOk.keep {G : Md} {I I' H H' : Hp} {ph ph' : List Addr} {a : Addr} {j : Nat} {c : Str} {fs : List (Str × Option D)} (h : ObOk G I H ph a j c fs) (ex : Evl.Ex I I') (px : Px ph ph')
    (k : ∀ b ∈ ph, ∀ o, H b = some o → (∀ xs, o ≠ .lst xs) → I b = none → H' b = some o ∧ I' b = none) : ObOk G I' H' ph' a j c fs :=
  ObOk.gen h (px.mem h.2.1) (fun b e => px _ b e) (fun _ _ _ _ _ _ r => r.mono ex px) k
/-- no code object's table, nothing known by what is true of it alone -/
def PlainO (o : HO) : Prop := (∀ ps, o ≠ .tbl ps) ∧ ∀ φ, o ≠ .ext φ
theorem plain_lst {xs : List V} : PlainO (.lst xs) := ⟨fun _ z => (nomatch z), fun _ z => (nomatch z)⟩
theorem codeO_slO {c a C dx : Addr} {q : Str} {vs : List (Option V)} : LamX.CodeO c q ≠ SlX.SlO a C dx vs := fun z => by
  unfold LamX.CodeO SlX.SlO at z
  have z := HO.ext.inj z
  have e := congrFun z { objs := Array.replicate (c + a + 1) { cls := .none, data := .fields #[.none, .str q 0] } }
  have g : ∀ i, i < c + a + 1 → ({ objs := Array.replicate (c + a + 1) { cls := .none, data := .fields #[.none, .str q 0] } } : Heap).get? i = some { cls := .none, data := .fields #[.none, .str q 0] } := fun i hi => by
    unfold Heap.get?
    simp [Array.getElem?_replicate, hi]
  have l := Eq.mp e ⟨_, _, _, g c (Nat.lt_succ_of_le (Nat.le_add_right c a)), rfl, rfl⟩
  obtain ⟨sl, h1, _⟩ := l
  rw [g a (Nat.lt_succ_of_le (Nat.le_add_left a c))] at h1
  have h1 := congrArg Obj.data (Option.some.inj h1)
  cases h1
/-- the tables of the text's code objects -/
structure TabOk (G : Md) (w : Wd) : Prop where
  at_ : ∀ p ∈ G.T, LamX.TabS w.H p.1 p.2
  no : ∀ a ps, w.I a ≠ some (.tbl ps)
  lam : ∀ j f c q, G.L j = some (f, c, q) → w.H c = some (LamX.CodeO c q)
/-- free, or a table -/
def Fr (H : Hp) (a : Addr) : Prop := H a = none ∨ ∃ ps, H a = some (.tbl ps)
theorem Fr.no {H : Hp} {a : Addr} {o : HO} (h : Fr H a) (e : H a = some o) (n : ∀ ps, o ≠ .tbl ps) : False := by
  rcases h with h | ⟨ps, h⟩
  · rw [h] at e; cases e
  · rw [h] at e; exact n ps (Option.some.inj e).symm
theorem Fr.eq {H H' : Hp} {a : Addr} (h : Fr H a) (e : H' a = H a) : Fr H' a := by
  unfold Fr
  rw [e]
  exact h
def CellOk (G : Md) (w : Wd) (a : Addr) : Cell → Prop
  | .lst xs => w.I a = none ∧ ∃ vs, w.H a = some (.lst vs) ∧ Reps G w.I w.ph vs xs
  | .dead => ∃ o, w.H a = some o ∧ PlainO o
  | .ob j c fs => ObOk G w.I w.H w.ph a j c fs
structure Rel (G : Md) (w : Wd) (st : Sto) : Prop where
  sub : Evl.Ex w.I w.H
  len : w.ph.length = st.length
  nd : w.ph.Nodup
  cel : ∀ (i : Nat) (a : Addr) (c : Cell), w.ph[i]? = some a → st[i]? = some c → CellOk G w a c
  tab : TabOk G w
structure Step (w w' : Wd) : Prop where
  im : Evl.Ex w.I w'.I
  px : Px w.ph w'.ph
  newI : ∀ a o, w'.I a = some o → w.I a = some o ∨ Fr w.H a ∨ a ∈ w.ph
  newP : ∀ a ∈ w'.ph, a ∈ w.ph ∨ Fr w.H a
  keep : ∀ a o, w.H a = some o → a ∉ w.ph → (∀ ps, o ≠ .tbl ps) → w'.H a = some o
  live : ∀ a, Fr w'.H a → Fr w.H a
theorem Step.refl (w : Wd) : Step w w := ⟨Evl.Ex.refl _, Px.refl, fun _ _ h => .inl h, fun _ h => .inl h, fun _ _ h _ _ => h, fun _ h => h⟩
theorem Step.trans {a b c : Wd} (p : Step a b) (q : Step b c) : Step a c where
  im := p.im.trans q.im
  px := p.px.trans q.px
  newI := fun x o h => by
    rcases q.newI x o h with h | h | h
    · exact p.newI x o h
    · exact .inr (.inl (p.live x h))
    · rcases p.newP x h with z | z
      · exact .inr (.inr z)
      · exact .inr (.inl z)
  newP := fun x h => by
    rcases q.newP x h with h | h
    · exact p.newP x h
    · exact .inr (p.live x h)
  keep := fun x o h n nt => by
    refine q.keep x o (p.keep x o h n nt) (fun hb => ?_) nt
    rcases p.newP x hb with z | z
    · exact n z
    · exact z.no h nt
  live := fun x h => p.live x (q.live x h)
section
variable {G : Md} {w w' : Wd} {st : Sto} {v : V} {d : D} {vs : List V} {ds : List D}
theorem Rep.step (s : Step w w') (h : Rep G w.I w.ph v d) : Rep G w'.I w'.ph v d := h.mono s.im s.px
theorem Reps.step (s : Step w w') (h : Reps G w.I w.ph vs ds) : Reps G w'.I w'.ph vs ds := h.mono s.im s.px
/-- a new object that stays -/
def Wd.addI (w : Wd) (p : Addr) (o : HO) : Wd := ⟨upd w.I p o, w.ph, upd w.H p o⟩
theorem Rel.notIn (r : Rel G w st) {p : Addr} (h : w.H p = none) : p ∉ w.ph := fun hm => by
  obtain ⟨i, hi, e⟩ := List.mem_iff_getElem.mp hm
  have hs : i < st.length := by rw [← r.len]; exact hi
  have c := r.cel i p st[i] (by rw [List.getElem?_eq_getElem hi, e]) (List.getElem?_eq_getElem hs)
  cases q : st[i] with
  | lst xs =>
    rw [q] at c
    obtain ⟨_, vs, e, _⟩ := c
    rw [h] at e
    cases e
  | dead =>
    rw [q] at c
    obtain ⟨o, e, _⟩ := c
    rw [h] at e
    cases e
  | ob j k fs =>
    rw [q] at c
    obtain ⟨_, _, _, _, _, _, _, _, h6, _⟩ := c
    rcases h6 with ⟨e, _⟩ | ⟨e, _⟩
    · rw [h] at e; cases e
    · rw [h] at e; cases e
/-- what stands in ph is no table and no code object -/
theorem Rel.kinds (r : Rel G w st) {a : Addr} {o : HO} (ha : a ∈ w.ph) (h : w.H a = some o) : (∀ ps, o ≠ .tbl ps) ∧ ∀ c q, o ≠ LamX.CodeO c q := by
  obtain ⟨i, hi, e⟩ := List.mem_iff_getElem.mp ha
  have hs : i < st.length := by rw [← r.len]; exact hi
  have c := r.cel i a st[i] (by rw [List.getElem?_eq_getElem hi, e]) (List.getElem?_eq_getElem hs)
  have pl : PlainO o → (∀ ps, o ≠ .tbl ps) ∧ ∀ c q, o ≠ LamX.CodeO c q := fun p => ⟨p.1, fun c q => p.2 _⟩
  cases q : st[i] with
  | lst xs =>
    rw [q] at c
    obtain ⟨_, vs, e, _⟩ := c
    rw [h] at e
    cases e
    exact pl plain_lst
  | dead =>
    rw [q] at c
    obtain ⟨o', e, p⟩ := c
    rw [h] at e
    cases e
    exact pl p
  | ob j k fs =>
    rw [q] at c
    obtain ⟨_, _, _, _, _, _, _, _, h6, _⟩ := c
    rcases h6 with ⟨e, _⟩ | ⟨e, _⟩
    · rw [h] at e
      cases e
      exact ⟨fun _ z => (nomatch z), fun _ _ z => by unfold LamX.CodeO at z; cases z⟩
    · rw [h] at e
      cases e
      exact ⟨fun _ z => (by unfold SlX.SlO at z; cases z), fun _ _ z => codeO_slO z.symm⟩
theorem codeO_nt {c : Addr} {q : Str} (ps : Array Value) : LamX.CodeO c q ≠ .tbl ps := LamX.codeO_ne ps
/-- the tables stay as they are -/
theorem TabOk.step {G : Md} {w w' : Wd} {st : Sto} (r : Rel G w st) (s : Step w w') (h1 : ∀ a ps, w.H a = some (.tbl ps) → w'.H a = some (.tbl ps)) (h2 : ∀ a ps, w'.I a ≠ some (.tbl ps)) : TabOk G w' := by
  refine ⟨fun p hp => ?_, h2, fun j f c q hj => have e2 := r.tab.lam j f c q hj; s.keep c _ e2 (fun z => (r.kinds z e2).2 _ _ rfl) codeO_nt⟩
  obtain ⟨ps, k2, k3, k4⟩ := r.tab.at_ p hp
  refine ⟨ps, h1 _ _ k2, k3, fun pos cv hc => ?_⟩
  obtain ⟨c, e1, e2⟩ := k4 pos cv hc
  exact ⟨c, e1, s.keep c _ e2 (fun z => (r.kinds z e2).2 _ _ rfl) codeO_nt⟩
/-- the tables' part of another world with the same heap -/
theorem TabOk.sameH {G : Md} {w w' : Wd} (t : TabOk G w) (eH : ∀ a, w'.H a = w.H a) (hI : ∀ a ps, w'.I a ≠ some (.tbl ps)) : TabOk G w' := by
  have e : w'.H = w.H := funext eH
  refine ⟨fun p hp => ?_, hI, by rw [e]; exact t.lam⟩
  rw [e]
  exact t.at_ p hp
theorem no_upd {I : Hp} {p : Addr} {o : HO} (h : ∀ a ps, I a ≠ some (.tbl ps)) (ho : ∀ ps, o ≠ .tbl ps) : ∀ a ps, upd I p o a ≠ some (.tbl ps) := fun a ps e => by
  by_cases ha : a = p
  · rw [ha, upd_same] at e
    exact ho ps (Option.some.inj e)
  · rw [upd_ne ha] at e
    exact h a ps e
theorem Rel.notFr (r : Rel G w st) {p : Addr} (h : Fr w.H p) : p ∉ w.ph := fun hm => by
  obtain ⟨i, hi, e⟩ := List.mem_iff_getElem.mp hm
  rcases h with h | ⟨ps, h⟩
  · exact r.notIn h hm
  · exact (r.kinds hm h).1 ps rfl
theorem Rel.noI (r : Rel G w st) {p : Addr} (h : w.H p = none) : w.I p = none := Evl.fresh_back r.sub h
theorem step_addI (r : Rel G w st) {p : Addr} {o : HO} (h : w.H p = none) : Step w (w.addI p o) where
  im := Evl.Ex.new (r.noI h)
  px := Px.refl
  newI := fun a u e => by
    by_cases ha : a = p
    · rw [ha]; exact .inr (.inl (.inl h))
    · exact .inl (by rw [show (w.addI p o).I = upd w.I p o from rfl, upd_ne ha] at e; exact e)
  newP := fun a ha => .inl ha
  keep := fun a u e _ _ => Evl.Ex.new h a u e
  live := fun a e => by
    by_cases ha : a = p
    · rw [ha]; exact .inl h
    · exact e.eq (by show w.H a = upd w.H p o a; rw [upd_ne ha])
theorem Rel.addI (r : Rel G w st) {p : Addr} {o : HO} (h : w.H p = none) (ho : ∀ ps, o ≠ .tbl ps := by intro _ z; cases z) : Rel G (w.addI p o) st where
  sub := fun a u e => by
    by_cases ha : a = p
    · rw [ha] at e ⊢
      rw [show (w.addI p o).I = upd w.I p o from rfl, upd_same] at e
      rw [show (w.addI p o).H = upd w.H p o from rfl, upd_same]
      exact e
    · rw [show (w.addI p o).I = upd w.I p o from rfl, upd_ne ha] at e
      rw [show (w.addI p o).H = upd w.H p o from rfl, upd_ne ha]
      exact r.sub a u e
  len := r.len
  nd := r.nd
  cel := fun i a c hi hc => by
    have ha : a ∈ w.ph := List.mem_of_getElem? hi
    have hn : a ≠ p := fun e => r.notIn h (e ▸ ha)
    have k := r.cel i a c hi hc
    cases c with
    | lst xs =>
      obtain ⟨e0, vs, e, q⟩ := k
      exact ⟨by rw [show (w.addI p o).I = upd w.I p o from rfl, upd_ne hn]; exact e0, vs, by rw [show (w.addI p o).H = upd w.H p o from rfl, upd_ne hn]; exact e, q.mono (Evl.Ex.new (r.noI h)) Px.refl⟩
    | dead =>
      obtain ⟨u, e, pl⟩ := k
      exact ⟨u, by rw [show (w.addI p o).H = upd w.H p o from rfl, upd_ne hn]; exact e, pl⟩
    | ob j c fs =>
      refine ObOk.keep k (Evl.Ex.new (r.noI h)) Px.refl fun b hb o' e1 _ e2 => ?_
      have hn : b ≠ p := fun e => r.notIn h (e ▸ hb)
      exact ⟨by show upd w.H p o b = _; rw [upd_ne hn]; exact e1, by show upd w.I p o b = _; rw [upd_ne hn]; exact e2⟩
  tab := TabOk.step r (step_addI r h) (fun a ps e => Evl.Ex.new h a _ e) (no_upd r.tab.no ho)
/-- a new list that may change -/
def Wd.addP (w : Wd) (p : Addr) : Wd := ⟨w.I, w.ph ++ [p], w.H⟩
/-- w1: what came, with the new list at p, which nobody holds yet -/
theorem Rel.addP (r : Rel G w st) {p : Addr} {xs : List D} (hp : p ∉ w.ph) (hI : w.I p = none) (hH : w.H p = some (.lst vs)) (q : Reps G w.I w.ph vs xs) : Rel G (w.addP p) (st ++ [.lst xs]) where
  sub := r.sub
  len := by simp [Wd.addP, r.len]
  nd := by
    show (w.ph ++ [p]).Nodup
    rw [List.nodup_append]
    refine ⟨r.nd, by simp, fun a ha b hb e => ?_⟩
    simp at hb
    exact hp (hb ▸ e ▸ ha)
  cel := fun i a c hi hc => by
    have hi : (w.ph ++ [p])[i]? = some a := hi
    by_cases hl : i < w.ph.length
    · rw [List.getElem?_append_left hl] at hi
      rw [List.getElem?_append_left (by rw [← r.len]; exact hl)] at hc
      have k := r.cel i a c hi hc
      cases c with
      | lst ys =>
        obtain ⟨e0, us, e, z⟩ := k
        exact ⟨e0, us, e, z.mono (Evl.Ex.refl _) (Px.app _ _)⟩
      | dead => exact k
      | ob j c fs => exact ObOk.keep k (Evl.Ex.refl _) (Px.app _ _) fun b hb o' e1 _ e2 => ⟨e1, e2⟩
    · have hl2 : i = w.ph.length := by
        have := (List.getElem?_eq_some_iff.mp hi).1
        simp at this
        omega
      subst hl2
      rw [List.getElem?_append_right (Nat.le_refl _)] at hi
      rw [r.len, List.getElem?_append_right (Nat.le_refl _)] at hc
      simp at hi hc
      rw [← hi, ← hc]
      exact ⟨hI, vs, hH, q.mono (Evl.Ex.refl _) (Px.app _ _)⟩
  tab := ⟨r.tab.at_, r.tab.no, r.tab.lam⟩
/-- the list i is changed -/
def Wd.put (w : Wd) (a : Addr) (vs : List V) : Wd := ⟨w.I, w.ph, upd w.H a (.lst vs)⟩
theorem step_put {a : Addr} (ha : a ∈ w.ph) : Step w (w.put a vs) where
  im := Evl.Ex.refl _
  px := Px.refl
  newI := fun _ _ h => .inl h
  newP := fun _ h => .inl h
  keep := fun b o h n _ => by
    have hb : b ≠ a := fun e => n (by rw [e]; exact ha)
    show upd w.H a (.lst vs) b = some o
    rw [upd_ne hb]
    exact h
  live := fun b h => by
    by_cases hb : b = a
    · rcases h with h | ⟨ps, h⟩
      · have h : upd w.H a (.lst vs) b = none := h
        rw [hb, upd_same] at h; cases h
      · have h : upd w.H a (.lst vs) b = some (.tbl ps) := h
        rw [hb, upd_same] at h; cases h
    · exact h.eq (by show w.H b = upd w.H a (.lst vs) b; rw [upd_ne hb])
theorem Rel.put (r : Rel G w st) {i : Nat} {a : Addr} {xs : List D} (hi : w.ph[i]? = some a) (hI : w.I a = none) (hL : ∃ us, w.H a = some (.lst us)) (q : Reps G w.I w.ph vs xs) : Rel G (w.put a vs) (st.set i (.lst xs)) where
  sub := fun b u e => by
    have ha : a ∈ w.ph := List.mem_of_getElem? hi
    have e : w.I b = some u := e
    have hb : b ≠ a := fun z => by rw [z, hI] at e; cases e
    show upd w.H a (.lst vs) b = some u
    rw [upd_ne hb]
    exact r.sub b u e
  len := by simp [Wd.put, r.len]
  nd := r.nd
  cel := fun j b c hj hc => by
    have hj : w.ph[j]? = some b := hj
    by_cases e : i = j
    · subst e
      rw [hi] at hj
      cases hj
      have hl : i < st.length := by rw [← r.len]; exact (List.getElem?_eq_some_iff.mp hi).1
      rw [List.getElem?_set_self hl] at hc
      cases hc
      exact ⟨hI, vs, upd_same, q⟩
    · rw [List.getElem?_set_ne e] at hc
      have hb : b ≠ a := fun z => by
        subst z
        obtain ⟨h1, e1⟩ := List.getElem?_eq_some_iff.mp hi
        obtain ⟨h2, e2⟩ := List.getElem?_eq_some_iff.mp hj
        exact e ((List.getElem_inj r.nd).mp (e1.trans e2.symm))
      have k := r.cel j b c hj hc
      cases c with
      | lst ys =>
        obtain ⟨e0, us, e, z⟩ := k
        exact ⟨e0, us, by show upd w.H a (.lst vs) b = some _; rw [upd_ne hb]; exact e, z⟩
      | dead =>
        obtain ⟨u, e, pl⟩ := k
        exact ⟨u, by show upd w.H a (.lst vs) b = some _; rw [upd_ne hb]; exact e, pl⟩
      | ob j c fs =>
        refine ObOk.keep k (Evl.Ex.refl _) Px.refl fun y hy o' e1 e3 e2 => ⟨?_, e2⟩
        have hn : y ≠ a := fun e => by
          obtain ⟨us, hL⟩ := hL
          rw [e, hL] at e1
          exact e3 us (Option.some.inj e1).symm
        show upd w.H a (.lst vs) y = _
        rw [upd_ne hn]
        exact e1
  tab := TabOk.step r (step_put (List.mem_of_getElem? hi)) (fun b ps e => by
    obtain ⟨us, hL⟩ := hL
    have hb : b ≠ a := fun z => by rw [z, hL] at e; cases e
    show upd w.H a (.lst vs) b = _
    rw [upd_ne hb]
    exact e) r.tab.no
end
section
variable {G : Md} {w : Wd} {st : Sto}
/-- the list i stays from now on as it is -/
def Wd.frz (w : Wd) (a : Addr) (vs : List V) : Wd := ⟨upd w.I a (.lst vs), w.ph, w.H⟩
theorem step_frz {a : Addr} {vs : List V} (ha : a ∈ w.ph) (hI : w.I a = none) : Step w (w.frz a vs) where
  im := Evl.Ex.new hI
  px := Px.refl
  newI := fun b o h => by
    by_cases hb : b = a
    · rw [hb]; exact .inr (.inr ha)
    · exact .inl (by rw [show (w.frz a vs).I = upd w.I a (.lst vs) from rfl, upd_ne hb] at h; exact h)
  newP := fun _ h => .inl h
  keep := fun _ _ h _ _ => h
  live := fun _ h => h
theorem Rel.frz (r : Rel G w st) {i : Nat} {a : Addr} {vs : List V} {xs : List D} (hi : w.ph[i]? = some a) (hs : st[i]? = some (.lst xs)) (h : w.H a = some (.lst vs)) (hI : w.I a = none) : Rel G (w.frz a vs) (st.set i .dead) where
  sub := fun b u e => by
    have e : upd w.I a (.lst vs) b = some u := e
    by_cases hb : b = a
    · rw [hb] at e ⊢
      rw [upd_same] at e
      rw [← e]
      exact h
    · rw [upd_ne hb] at e
      exact r.sub b u e
  len := by simp [Wd.frz, r.len]
  nd := r.nd
  cel := fun j b c hj hc => by
    have hj : w.ph[j]? = some b := hj
    by_cases e : i = j
    · subst e
      rw [hi] at hj
      cases hj
      have hl : i < st.length := by rw [← r.len]; exact (List.getElem?_eq_some_iff.mp hi).1
      rw [List.getElem?_set_self hl] at hc
      cases hc
      exact ⟨_, h, plain_lst⟩
    · rw [List.getElem?_set_ne e] at hc
      have hb : b ≠ a := fun z => by
        subst z
        obtain ⟨h1, e1⟩ := List.getElem?_eq_some_iff.mp hi
        obtain ⟨h2, e2⟩ := List.getElem?_eq_some_iff.mp hj
        exact e ((List.getElem_inj r.nd).mp (e1.trans e2.symm))
      have k := r.cel j b c hj hc
      cases c with
      | lst ys =>
        obtain ⟨e0, us, e, z⟩ := k
        exact ⟨by show upd w.I a (.lst vs) b = none; rw [upd_ne hb]; exact e0, us, e, z.mono (Evl.Ex.new hI) Px.refl⟩
      | dead => exact k
      | ob j c fs =>
        refine ObOk.keep k (Evl.Ex.new hI) Px.refl fun y hy o' e1 e3 e2 => ⟨e1, ?_⟩
        have hn : y ≠ a := fun e => by
          rw [e, h] at e1
          exact e3 vs (Option.some.inj e1).symm
        show upd w.I a (.lst vs) y = _
        rw [upd_ne hn]
        exact e2
  tab := TabOk.step r (step_frz (List.mem_of_getElem? hi) hI) (fun _ _ e => e) (no_upd r.tab.no fun _ z => nomatch z)
end
abbrev Sl := List (Option D)
def Slo (G : Md) (w : Wd) (sv : L2.St) (sd : Sl) : Prop := sv.length = sd.length ∧ ∀ (i : Nat) d, sd[i]? = some (some d) → ∃ v, sv[i]? = some (some v) ∧ Rep G w.I w.ph v d
section
variable {G : Md} {w w' : Wd} {sv : L2.St} {sd : Sl} {v : V} {d : D}
theorem Slo.step (s : Step w w') (h : Slo G w sv sd) : Slo G w' sv sd := ⟨h.1, fun i d e => by
  obtain ⟨v, a, b⟩ := h.2 i d e
  exact ⟨v, a, b.step s⟩⟩
theorem Slo.set (h : Slo G w sv sd) (i : Nat) (r : Rep G w.I w.ph v d) : Slo G w (sv.set i (some v)) (sd.set i (some d)) := by
  refine ⟨by simp [h.1], fun j e q => ?_⟩
  rw [List.getElem?_set] at q
  by_cases hj : i = j
  · subst hj
    rw [if_pos rfl] at q
    split at q
    · rename_i hl
      simp at q
      subst q
      exact ⟨v, by rw [List.getElem?_set_self (by rw [h.1]; exact hl)], r⟩
    · cases q
  · rw [if_neg hj] at q
    obtain ⟨x, a, b⟩ := h.2 j e q
    exact ⟨x, by rw [List.getElem?_set_ne hj]; exact a, b⟩
def wipeD (sd : Sl) : List Nat → Sl
  | [] => sd
  | i :: is => (wipeD sd is).set i none
theorem Slo.wipe (h : Slo G w sv sd) (vs : List Nat) : Slo G w (L2.wipe sv vs) (wipeD sd vs) := by
  induction vs with
  | nil => exact h
  | cons i is ih =>
    refine ⟨by simp [L2.wipe, wipeD, ih.1], fun j e q => ?_⟩
    have q : ((wipeD sd is).set i none)[j]? = some (some e) := q
    rw [List.getElem?_set] at q
    by_cases hj : i = j
    · subst hj
      rw [if_pos rfl] at q
      split at q <;> cases q
    · rw [if_neg hj] at q
      obtain ⟨x, a, b⟩ := ih.2 j e q
      refine ⟨x, ?_, b⟩
      show ((L2.wipe sv is).set i none)[j]? = some (some x)
      rw [List.getElem?_set_ne hj]
      exact a
end
end DS
namespace DS
open PySem PySem.Spec PyProof.Rows L2
def ExR (G : Md) (w : Wd) (c : Exc) (cls : Value) (dd : Option Addr) : Prop :=
  (match c.cls with
    | .glo x => G.mg x = some cls
    | .ty n => cls = .type n
    | _ => False) ∧
  match c.arg with
    | none => dd = none
    | some q => ∃ a v, dd = some a ∧ w.I a = some (.xd [(q.1, v)]) ∧ Rep G w.I w.ph v q.2
theorem ExR.step {G : Md} {w w' : Wd} {c : Exc} {cls : Value} {dd : Option Addr} (s : Step w w') (h : ExR G w c cls dd) : ExR G w' c cls dd := by
  obtain ⟨h1, h2⟩ := h
  refine ⟨h1, ?_⟩
  cases q : c.arg with
  | none =>
    rw [q] at h2
    exact h2
  | some p =>
    rw [q] at h2
    obtain ⟨a, v, e1, e2, e3⟩ := h2
    exact ⟨a, v, e1, s.im _ _ e2, e3.step s⟩
abbrev RR (b a : Type) := Wd → Wd → b → a → Prop
structure An {b a : Type} (R : RR b a) : Prop where
  up : ∀ (w w' w2 : Wd) (y : b) (x : a), Step w w' → R w' w2 y x → R w w2 y x
def Post {b a : Type} (G : Md) (R : RR b a) (w : Wd) (r : Res a) (Q : b → Hp → Prop) (W : XK) : Prop := match r with
  | .ok x st => ∀ w' y, Step w w' → Rel G w' st → R w w' y x → Q y w'.H
  | .ex c st => ∀ w' cls dd, Step w w' → Rel G w' st → ExR G w' c cls dd → W cls dd w'.H
  | .stk => False
section
variable {a b c d : Type} {G : Md} {R : RR b a} {R2 : RR d c} {w w' : Wd} {r : Res a} {Q Q' : b → Hp → Prop} {W : XK}
theorem Post.step (hR : An R) (s : Step w w') (h : Post G R w r Q W) : Post G R w' r Q W := by
  cases r with
  | ok x st => exact fun w2 y s2 r2 q => h w2 y (s.trans s2) r2 (hR.up _ _ _ _ _ s q)
  | ex e st => exact fun w2 cls dd s2 r2 q => h w2 cls dd (s.trans s2) r2 q
  | stk => exact h
theorem Post.imp (h : Post G R w r Q W) (k : ∀ y H, Q y H → Q' y H) : Post G R w r Q' W := by
  cases r with
  | ok x st => exact fun w2 y s2 r2 q => k _ _ (h w2 y s2 r2 q)
  | ex e st => exact h
  | stk => exact h
theorem Post.bind {k : a → Sto → Res c} {Q2 : d → Hp → Prop} (h : Post G R2 w (r.bind k) Q2 W) :
    Post G R w r (fun y H => ∃ w' x st', w'.H = H ∧ Step w w' ∧ Rel G w' st' ∧ R w w' y x ∧ Post G R2 w (k x st') Q2 W) W := by
  cases r with
  | ok x st => exact fun w2 y s2 r2 q => ⟨w2, x, st, rfl, s2, r2, q, h⟩
  | ex e st => exact h
  | stk => exact h
end
/-- a value stands for a datum -/
def RE (G : Md) : RR V D := fun _ w' v d => Rep G w'.I w'.ph v d
def RA (G : Md) : RR (List V) (List D) := fun _ w' v d => Reps G w'.I w'.ph v d
def RT : RR Bool Bool := fun _ _ x y => x = y
/-- a new list that nobody holds -/
def RF (G : Md) : RR V (List D) := fun w w' v xs => ∃ p vs, v = .ref p ∧ Fr w.H p ∧ p ∉ w'.ph ∧ w'.I p = none ∧ w'.H p = some (.lst vs) ∧ Reps G w'.I w'.ph vs xs
theorem anE {G : Md} : An (RE G) := ⟨fun _ _ _ _ _ _ h => h⟩
theorem anA {G : Md} : An (RA G) := ⟨fun _ _ _ _ _ _ h => h⟩
theorem anT : An RT := ⟨fun _ _ _ _ _ _ h => h⟩
theorem anF {G : Md} : An (RF G) := ⟨fun _ _ _ _ _ s ⟨p, vs, e, h, r⟩ => ⟨p, vs, e, s.live p h, r⟩⟩
abbrev EE := Sl → Sto → Res D
abbrev EA := Sl → Sto → Res (List D)
abbrev ET := Sl → Sto → Res Bool
def SE (G : Md) (E : L2.St → XK) (te : TE) (f : EE) : Prop := ∀ w sv sd st Q, Rel G w st → Slo G w sv sd → Post G (RE G) w (f sd st) Q (E sv) → te sv w.H Q
def SA (G : Md) (E : L2.St → XK) (ta : TA) (f : EA) : Prop := ∀ w sv sd st Q, Rel G w st → Slo G w sv sd → Post G (RA G) w (f sd st) Q (E sv) → ta sv w.H Q
def ST (G : Md) (E : L2.St → XK) (tt : TT) (f : ET) : Prop := ∀ w sv sd st Q, Rel G w st → Slo G w sv sd → Post G RT w (f sd st) Q (E sv) → tt sv w.H Q
def SF (G : Md) (E : L2.St → XK) (te : TE) (f : EA) : Prop := ∀ w sv sd st Q, Rel G w st → Slo G w sv sd → Post G (RF G) w (f sd st) Q (E sv) → te sv w.H Q
def eVar (i : Nat) : EE := fun sd st => match sd[i]? with
  | some (some d) => .ok d st
  | _ => .stk
def eC (d : D) : EE := fun _ st => .ok d st
def eOp (g : Sto → D → D → Option D) (fa fb : EE) : EE := fun sd st => (fa sd st).bind fun x st1 => (fb sd st1).bind fun y st2 => Res.ofO (g st2 x y) st2
def eUn (g : Sto → D → Option D) (fa : EE) : EE := fun sd st => (fa sd st).bind fun x st1 => Res.ofO (g st1 x) st1
def aNil : EA := fun _ st => .ok [] st
def aCons (fa : EE) (fr : EA) : EA := fun sd st => (fa sd st).bind fun x st1 => (fr sd st1).bind fun xs st2 => .ok (x :: xs) st2
def lineN : Nat := 100000
def eTup (fa : EA) : EE := fun sd st => (fa sd st).bind fun xs st1 => if xs.length ≤ lineN then .ok (.tup xs) st1 else .stk
def fLst (fa : EA) : EA := fun sd st => (fa sd st).bind fun xs st1 => if xs.length ≤ lineN then .ok xs st1 else .stk
/-- a new list as a datum that stays -/
def eFz (f : EA) : EE := fun sd st => (f sd st).bind fun xs st1 => .ok (.lst xs) st1
def D.isB : D → Option Bool
  | .bl b => some b
  | _ => none
def eTest (f : EE) : ET := fun sd st => (f sd st).bind fun x st1 => Res.ofO x.isB st1
def eAnd (f g : ET) : ET := fun sd st => (f sd st).bind fun x st1 => if x = true then g sd st1 else .ok false st1
def eOr (f g : ET) : ET := fun sd st => (f sd st).bind fun x st1 => if x = true then .ok true st1 else g sd st1
def eNot (f : ET) : ET := fun sd st => (f sd st).bind fun x st1 => .ok (!x) st1
/-- as values: bools alone -/
def eAndV (f g : EE) : EE := fun sd st => (f sd st).bind fun x st1 => match x with
  | .bl true => g sd st1
  | .bl false => .ok (.bl false) st1
  | _ => .stk
def eOrV (f g : EE) : EE := fun sd st => (f sd st).bind fun x st1 => match x with
  | .bl true => .ok (.bl true) st1
  | .bl false => g sd st1
  | _ => .stk
def eNotV (f : EE) : EE := fun sd st => (f sd st).bind fun x st1 => match x with
  | .bl b => .ok (.bl (!b)) st1
  | _ => .stk
def eIf (c : ET) (f g : EE) : EE := fun sd st => (c sd st).bind fun x st1 => if x = true then f sd st1 else g sd st1
def OpD (G : Md) (r : R2) (g : Sto → D → D → Option D) : Prop := ∀ w st x y dx dy d Q, Rel G w st → Rep G w.I w.ph x dx → Rep G w.I w.ph y dy → g st dx dy = some d →
  (∀ w' v, Step w w' → Rel G w' st → Rep G w'.I w'.ph v d → Q v w'.H) → r x y w.H Q
def UnD (G : Md) (r : V → Hp → VK → Prop) (g : Sto → D → Option D) : Prop := ∀ w st x dx d Q, Rel G w st → Rep G w.I w.ph x dx → g st dx = some d →
  (∀ w' v, Step w w' → Rel G w' st → Rep G w'.I w'.ph v d → Q v w'.H) → r x w.H Q
def CaD (G : Md) (r : List V → Hp → VK → Prop) (g : Sto → List D → Option D) : Prop := ∀ w st xs ds d Q, Rel G w st → Reps G w.I w.ph xs ds → g st ds = some d →
  (∀ w' v, Step w w' → Rel G w' st → Rep G w'.I w'.ph v d → Q v w'.H) → r xs w.H Q
def eCB (g : Sto → List D → Option D) (fa : EA) : EE := fun sd st => (fa sd st).bind fun xs st1 => Res.ofO (g st1 xs) st1
/-- .. that give a new list -/
def OpF (G : Md) (r : R2) (g : Sto → D → D → Option (List D)) : Prop := ∀ w st x y dx dy d Q, Rel G w st → Rep G w.I w.ph x dx → Rep G w.I w.ph y dy → g st dx dy = some d →
  (∀ w' v, Step w w' → Rel G w' st → RF G w w' v d → Q v w'.H) → r x y w.H Q
def CaF (G : Md) (r : List V → Hp → VK → Prop) (g : Sto → List D → Option (List D)) : Prop := ∀ w st xs ds d Q, Rel G w st → Reps G w.I w.ph xs ds → g st ds = some d →
  (∀ w' v, Step w w' → Rel G w' st → RF G w w' v d → Q v w'.H) → r xs w.H Q
def fOp (g : Sto → D → D → Option (List D)) (fa fb : EE) : EA := fun sd st => (fa sd st).bind fun x st1 => (fb sd st1).bind fun y st2 => Res.ofO (g st2 x y) st2
def fCB (g : Sto → List D → Option (List D)) (fa : EA) : EA := fun sd st => (fa sd st).bind fun xs st1 => Res.ofO (g st1 xs) st1
section
variable {G : Md} {E : L2.St → XK} {ta tb te tx : TE} {t t2 : TT} {tA tR : TA} {f fa fb fx : EE} {c c2 : ET} {fs fr : EA} {r : R2}
theorem ofO_post {a b : Type} {R : RR b a} {w : Wd} {o : Option a} {st : Sto} {Q : b → Hp → Prop} {W : XK} (h : Post G R w (Res.ofO o st) Q W) : ∃ x, o = some x ∧ ∀ w' y, Step w w' → Rel G w' st → R w w' y x → Q y w'.H := by
  cases o with
  | none => exact h.elim
  | some x => exact ⟨x, rfl, h⟩
theorem se_var {i : Nat} : SE G E (tVar i) (eVar i) := by
  intro w sv sd st Q rel sl h
  unfold eVar at h
  split at h
  · rename_i d e
    obtain ⟨v, e1, rv⟩ := sl.2 i d e
    exact ⟨v, e1, h w v (Step.refl w) rel rv⟩
  · exact h.elim
theorem se_c {v : V} {d : D} (hr : ∀ I ph, Rep G I ph v d) : SE G E (tC v) (eC d) := fun w sv sd st Q rel sl h => h w v (Step.refl w) rel (hr _ _)
theorem se_op {g : Sto → D → D → Option D} (hg : OpD G r g) (ha : SE G E ta fa) (hb : SE G E tb fb) : SE G E (tOp r ta tb) (eOp g fa fb) := by
  intro w sv sd st Q rel sl h
  refine ha w sv sd st _ rel sl ((Post.bind h).imp ?_)
  rintro x _ ⟨w1, dx, st1, rfl, s1, r1, rx, h1⟩
  refine hb w1 sv sd st1 _ r1 (sl.step s1) ((Post.bind (h1.step anE s1)).imp ?_)
  rintro y _ ⟨w2, dy, st2, rfl, s2, r2, ry, h2⟩
  obtain ⟨d, e, h3⟩ := ofO_post (h2.step anE s2)
  exact hg w2 st2 x y dx dy d Q r2 (Rep.step s2 rx) ry e h3
theorem sf_op {g : Sto → D → D → Option (List D)} (hg : OpF G r g) (ha : SE G E ta fa) (hb : SE G E tb fb) : SF G E (tOp r ta tb) (fOp g fa fb) := by
  intro w sv sd st Q rel sl h
  refine ha w sv sd st _ rel sl ((Post.bind h).imp ?_)
  rintro x _ ⟨w1, dx, st1, rfl, s1, r1, rx, h1⟩
  refine hb w1 sv sd st1 _ r1 (sl.step s1) ((Post.bind (h1.step anF s1)).imp ?_)
  rintro y _ ⟨w2, dy, st2, rfl, s2, r2, ry, h2⟩
  obtain ⟨d, e, h3⟩ := ofO_post (h2.step anF s2)
  exact hg w2 st2 x y dx dy d Q r2 (Rep.step s2 rx) ry e h3
theorem se_un {r : V → Hp → VK → Prop} {g : Sto → D → Option D} (hg : UnD G r g) (ha : SE G E ta fa) : SE G E (tUn r ta) (eUn g fa) := by
  intro w sv sd st Q rel sl h
  refine ha w sv sd st _ rel sl ((Post.bind h).imp ?_)
  rintro x _ ⟨w1, dx, st1, rfl, s1, r1, rx, h1⟩
  obtain ⟨d, e, h3⟩ := ofO_post (h1.step anE s1)
  exact hg w1 st1 x dx d Q r1 rx e h3
theorem sa_nil : SA G E tNil aNil := fun w sv sd st Q rel sl h => h w [] (Step.refl w) rel Reps.nil
theorem sa_cons (ha : SE G E ta fa) (hr : SA G E tR fr) : SA G E (tCons ta tR) (aCons fa fr) := by
  intro w sv sd st Q rel sl h
  refine ha w sv sd st _ rel sl ((Post.bind h).imp ?_)
  rintro x _ ⟨w1, dx, st1, rfl, s1, r1, rx, h1⟩
  refine hr w1 sv sd st1 _ r1 (sl.step s1) ((Post.bind (h1.step anA s1)).imp ?_)
  rintro xs _ ⟨w2, ds, st2, rfl, s2, r2, rs, h2⟩
  exact (h2.step anA s2) w2 _ (Step.refl _) r2 (Reps.cons (Rep.step s2 rx) rs)
/-- a new list, held by nobody -/
theorem fresh_lst {w : Wd} {st : Sto} {p : Addr} {vs : List V} {ds : List D} (r : Rel G w st) (hp : w.H p = none) (rs : Reps G w.I w.ph vs ds) : Step w ⟨w.I, w.ph, upd w.H p (.lst vs)⟩ ∧ Rel G ⟨w.I, w.ph, upd w.H p (.lst vs)⟩ st := by
  have hs : Step w ⟨w.I, w.ph, upd w.H p (.lst vs)⟩ := by
    refine ⟨Evl.Ex.refl _, Px.refl, fun _ _ h => .inl h, fun _ h => .inl h, fun a o h _ _ => Evl.Ex.new hp a o h, fun a h => ?_⟩
    by_cases ha : a = p
    · rw [ha]; exact .inl hp
    · exact h.eq (by show w.H a = upd w.H p (.lst vs) a; rw [upd_ne ha])
  refine ⟨hs, ⟨r.sub.trans (Evl.Ex.new hp), r.len, r.nd, fun i a c hi hc => ?_, TabOk.step r hs (fun a ps e => Evl.Ex.new hp a _ e) r.tab.no⟩⟩
  · have k := r.cel i a c hi hc
    cases c with
    | lst ys =>
      obtain ⟨e0, us, e, z⟩ := k
      exact ⟨e0, us, Evl.Ex.new hp _ _ e, z⟩
    | dead =>
      obtain ⟨u, e, pl⟩ := k
      exact ⟨u, Evl.Ex.new hp _ _ e, pl⟩
    | ob j c fs => exact ObOk.keep k (Evl.Ex.refl _) Px.refl fun b hb o' e1 _ e2 => ⟨Evl.Ex.new hp _ _ e1, e2⟩
theorem line_ok {n : Nat} (h : n ≤ lineN) : n ≤ sizeLine := Evl.sz_of h
theorem se_tup (ha : SA G E tA fr) : SE G E (tTup tA) (eTup fr) := by
  intro w sv sd st Q rel sl h
  refine ha w sv sd st _ rel sl ((Post.bind h).imp ?_)
  rintro xs _ ⟨w1, ds, st1, rfl, s1, r1, rs, h1⟩
  have h1 := h1.step anE s1
  split at h1
  · rename_i hl
    refine ⟨line_ok (by rw [rs.1]; exact hl), fun p hp => ?_⟩
    exact h1 (w1.addI p (.tup xs)) _ (step_addI r1 hp) (r1.addI hp) (Rep.tup' (SqT.of upd_same) (rs.step (step_addI r1 hp)))
  · exact h1.elim
theorem sf_lst (ha : SA G E tA fr) : SF G E (tLst tA) (fLst fr) := by
  intro w sv sd st Q rel sl h
  refine ha w sv sd st _ rel sl ((Post.bind h).imp ?_)
  rintro xs _ ⟨w1, ds, st1, rfl, s1, r1, rs, h1⟩
  have h1 := h1.step anF s1
  split at h1
  · rename_i hl
    refine ⟨line_ok (by rw [rs.1]; exact hl), fun p hp => ?_⟩
    have k := fresh_lst r1 hp rs
    exact h1 ⟨w1.I, w1.ph, upd w1.H p (.lst xs)⟩ _ k.1 k.2 ⟨p, xs, rfl, .inl hp, r1.notIn hp, r1.noI hp, upd_same, rs⟩
  · exact h1.elim
/-- a new list is kept as it is -/
theorem keep_new {w w' : Wd} {st : Sto} {v : V} {xs : List D} (s : Step w w') (r : Rel G w' st) (h : RF G w w' v xs) : ∃ w2, w2.H = w'.H ∧ Step w w2 ∧ Rel G w2 st ∧ Rep G w2.I w2.ph v (.lst xs) := by
  obtain ⟨p, vs, rfl, h0, h1, h2, h3, h4⟩ := h
  have ex : Evl.Ex w'.I (upd w'.I p (.lst vs)) := Evl.Ex.new h2
  refine ⟨⟨upd w'.I p (.lst vs), w'.ph, w'.H⟩, rfl, ⟨s.im.trans ex, s.px, fun a o e => ?_, s.newP, s.keep, s.live⟩, ⟨fun a o e => ?_, r.len, r.nd, fun i a c hi hc => ?_, r.tab.sameH (fun _ => rfl) (no_upd r.tab.no fun _ z => nomatch z)⟩, Rep.lst' upd_same (h4.mono ex Px.refl)⟩
  · by_cases ha : a = p
    · rw [ha]; exact .inr (.inl h0)
    · have e : upd w'.I p (.lst vs) a = some o := e
      rw [upd_ne ha] at e
      exact s.newI a o e
  · have e : upd w'.I p (.lst vs) a = some o := e
    by_cases ha : a = p
    · rw [ha] at e ⊢
      rw [upd_same] at e
      rw [← e]
      exact h3
    · rw [upd_ne ha] at e
      exact r.sub a o e
  · have ha : a ≠ p := fun e => h1 (e ▸ List.mem_of_getElem? hi)
    have k := r.cel i a c hi hc
    cases c with
    | lst ys =>
      obtain ⟨e0, us, e, z⟩ := k
      exact ⟨by show upd w'.I p (.lst vs) a = none; rw [upd_ne ha]; exact e0, us, e, z.mono ex Px.refl⟩
    | dead => exact k
    | ob j c fs =>
      refine ObOk.keep k ex Px.refl fun b hb o' e1 _ e2 => ⟨e1, ?_⟩
      have hn : b ≠ p := fun e => h1 (e ▸ hb)
      show upd w'.I p (.lst vs) b = none
      rw [upd_ne hn]
      exact e2
theorem se_fz (h : SF G E te fs) : SE G E te (eFz fs) := by
  intro w sv sd st Q rel sl q
  refine h w sv sd st _ rel sl ((Post.bind q).imp ?_)
  rintro v _ ⟨w1, xs, st1, rfl, s1, r1, hf, h1⟩
  obtain ⟨w2, e, s2, r2, rp⟩ := keep_new s1 r1 hf
  rw [← e]
  exact h1 w2 v s2 r2 rp
theorem isB_rep {w : Wd} {v : V} {d : D} {b : Bool} (h : Rep G w.I w.ph v d) (e : d.isB = some b) : v = .bl b := by
  cases h with
  | bl x =>
    have e : some x = some b := e
    cases e
    rfl
  | _ => cases e
theorem st_test (h : SE G E te f) : ST G E (tTest te) (eTest f) := by
  intro w sv sd st Q rel sl q
  refine h w sv sd st _ rel sl ((Post.bind q).imp ?_)
  rintro x _ ⟨w1, dx, st1, rfl, s1, r1, rx, h1⟩
  obtain ⟨b, e, h3⟩ := ofO_post (h1.step anT s1)
  exact ⟨b, isB_rep rx e, h3 w1 b (Step.refl _) r1 rfl⟩
theorem st_B (h : SE G E te f) : ST G E (tB te) (eTest f) := st_test h
theorem st_and (h : ST G E t c) (h2 : ST G E t2 c2) : ST G E (tAnd t t2) (eAnd c c2) := by
  intro w sv sd st Q rel sl q
  refine h w sv sd st _ rel sl ((Post.bind q).imp ?_)
  rintro x _ ⟨w1, b, st1, rfl, s1, r1, rfl, h1⟩
  have h1 := h1.step anT s1
  cases x with
  | true => exact h2 w1 sv sd st1 _ r1 (sl.step s1) h1
  | false => exact h1 w1 false (Step.refl _) r1 rfl
theorem st_or (h : ST G E t c) (h2 : ST G E t2 c2) : ST G E (tOr t t2) (eOr c c2) := by
  intro w sv sd st Q rel sl q
  refine h w sv sd st _ rel sl ((Post.bind q).imp ?_)
  rintro x _ ⟨w1, b, st1, rfl, s1, r1, rfl, h1⟩
  have h1 := h1.step anT s1
  cases x with
  | false => exact h2 w1 sv sd st1 _ r1 (sl.step s1) h1
  | true => exact h1 w1 true (Step.refl _) r1 rfl
theorem st_not (h : ST G E t c) : ST G E (tNot t) (eNot c) := by
  intro w sv sd st Q rel sl q
  refine h w sv sd st _ rel sl ((Post.bind q).imp ?_)
  rintro x _ ⟨w1, b, st1, rfl, s1, r1, rfl, h1⟩
  exact (h1.step anT s1) w1 (!x) (Step.refl _) r1 rfl
theorem se_andV (h : SE G E ta fa) (h2 : SE G E tb fb) : SE G E (tAndV ta tb) (eAndV fa fb) := by
  intro w sv sd st Q rel sl q
  refine h w sv sd st _ rel sl ((Post.bind q).imp ?_)
  rintro x _ ⟨w1, dx, st1, rfl, s1, r1, rx, h1⟩
  have h1 := h1.step anE s1
  cases rx with
  | bl b =>
    refine ⟨b, rfl, ?_⟩
    cases b with
    | true => exact h2 w1 sv sd st1 _ r1 (sl.step s1) h1
    | false => exact h1 w1 _ (Step.refl _) r1 (.bl false)
  | _ => exact h1.elim
theorem se_orV (h : SE G E ta fa) (h2 : SE G E tb fb) : SE G E (tOrV ta tb) (eOrV fa fb) := by
  intro w sv sd st Q rel sl q
  refine h w sv sd st _ rel sl ((Post.bind q).imp ?_)
  rintro x _ ⟨w1, dx, st1, rfl, s1, r1, rx, h1⟩
  have h1 := h1.step anE s1
  cases rx with
  | bl b =>
    refine ⟨b, rfl, ?_⟩
    cases b with
    | false => exact h2 w1 sv sd st1 _ r1 (sl.step s1) h1
    | true => exact h1 w1 _ (Step.refl _) r1 (.bl true)
  | _ => exact h1.elim
theorem se_notV (h : SE G E ta fa) : SE G E (tNotV ta) (eNotV fa) := by
  intro w sv sd st Q rel sl q
  refine h w sv sd st _ rel sl ((Post.bind q).imp ?_)
  rintro x _ ⟨w1, dx, st1, rfl, s1, r1, rx, h1⟩
  have h1 := h1.step anE s1
  cases rx with
  | bl b => exact ⟨b, rfl, h1 w1 _ (Step.refl _) r1 (.bl _)⟩
  | _ => exact h1.elim
theorem se_if (hc : ST G E t c) (ha : SE G E ta fa) (hb : SE G E tb fb) : SE G E (tIf t ta tb) (eIf c fa fb) := by
  intro w sv sd st Q rel sl q
  refine hc w sv sd st _ rel sl ((Post.bind q).imp ?_)
  rintro x _ ⟨w1, b, st1, rfl, s1, r1, rfl, h1⟩
  have h1 := h1.step anE s1
  cases x with
  | true => exact ha w1 sv sd st1 _ r1 (sl.step s1) h1
  | false => exact hb w1 sv sd st1 _ r1 (sl.step s1) h1
theorem se_cb {r : List V → Hp → VK → Prop} {g : Sto → List D → Option D} (hg : CaD G r g) (ha : SA G E tA fr) : SE G E (tCB r tA) (eCB g fr) := by
  intro w sv sd st Q rel sl h
  refine ha w sv sd st _ rel sl ((Post.bind h).imp ?_)
  rintro x _ ⟨w1, dx, st1, rfl, s1, r1, rx, h1⟩
  obtain ⟨d, e, h3⟩ := ofO_post (h1.step anE s1)
  exact hg w1 st1 x dx d Q r1 rx e h3
theorem sf_cb {r : List V → Hp → VK → Prop} {g : Sto → List D → Option (List D)} (hg : CaF G r g) (ha : SA G E tA fr) : SF G E (tCB r tA) (fCB g fr) := by
  intro w sv sd st Q rel sl h
  refine ha w sv sd st _ rel sl ((Post.bind h).imp ?_)
  rintro x _ ⟨w1, dx, st1, rfl, s1, r1, rx, h1⟩
  obtain ⟨d, e, h3⟩ := ofO_post (h1.step anF s1)
  exact hg w1 st1 x dx d Q r1 rx e h3
end
end DS
namespace DS
open PySem PySem.Spec PyProof.Rows L2
inductive Fl where
  | nx | brk | cnt | ret (d : D)
inductive SR where
  | go (f : Fl) (sd : Sl) (st : Sto)
  | ex (c : Exc) (sd : Sl) (st : Sto)
  | stk
abbrev SS := Sl → Sto → SR
def Res.toS {a : Type} (r : Res a) (sd : Sl) (k : a → Sto → SR) : SR := match r with
  | .ok x st => k x st
  | .ex c st => .ex c sd st
  | .stk => .stk
def PostS (G : Md) (w : Wd) (r : SR) (Dn : Ends) (W : WX) : Prop := match r with
  | .go .nx sd st => ∀ w' sv, Step w w' → Rel G w' st → Slo G w' sv sd → Dn.nx sv w'.H
  | .go .brk sd st => ∀ w' sv, Step w w' → Rel G w' st → Slo G w' sv sd → Dn.bk sv w'.H
  | .go .cnt sd st => ∀ w' sv, Step w w' → Rel G w' st → Slo G w' sv sd → Dn.ct sv w'.H
  | .go (.ret d) sd st => ∀ w' v, Step w w' → Rel G w' st → Rep G w'.I w'.ph v d → Dn.rt v w'.H
  | .ex c sd st => ∀ w' sv cls dd, Step w w' → Rel G w' st → Slo G w' sv sd → ExR G w' c cls dd → W cls dd sv w'.H
  | .stk => False
def SD (G : Md) (W : WX) (ts : TS) (f : SS) : Prop := ∀ w sv sd st Dn, Rel G w st → Slo G w sv sd → PostS G w (f sd st) Dn W → ts Dn sv w.H
abbrev EW (W : WX) : L2.St → XK := fun sv cls dd H => W cls dd sv H
section
variable {G : Md} {w w' : Wd} {r : SR} {Dn : Ends} {W : WX}
theorem PostS.step (s : Step w w') (h : PostS G w r Dn W) : PostS G w' r Dn W := by
  cases r with
  | go f sd st =>
    cases f with
    | nx => exact fun w2 sv s2 r2 q => h w2 sv (s.trans s2) r2 q
    | brk => exact fun w2 sv s2 r2 q => h w2 sv (s.trans s2) r2 q
    | cnt => exact fun w2 sv s2 r2 q => h w2 sv (s.trans s2) r2 q
    | ret d => exact fun w2 v s2 r2 q => h w2 v (s.trans s2) r2 q
  | ex c sd st => exact fun w2 sv cls dd s2 r2 q e => h w2 sv cls dd (s.trans s2) r2 q e
  | stk => exact h
theorem PostS.ofE {a b : Type} {R : RR b a} {x : Res a} {sd : Sl} {sv : L2.St} {k : a → Sto → SR} (sl : Slo G w sv sd) (h : PostS G w (x.toS sd k) Dn W) :
    Post G R w x (fun y H => ∃ w' x st', w'.H = H ∧ Step w w' ∧ Rel G w' st' ∧ R w w' y x ∧ PostS G w (k x st') Dn W) (EW W sv) := by
  cases x with
  | ok x st => exact fun w2 y s2 r2 q => ⟨w2, x, st, rfl, s2, r2, q, h⟩
  | ex c st => exact fun w2 cls dd s2 r2 q => h w2 sv cls dd s2 r2 (sl.step s2) q
  | stk => exact h
end
def sNext : SS := fun sd st => .go .nx sd st
def sSeq (f g : SS) : SS := fun sd st => match f sd st with
  | .go .nx sd1 st1 => g sd1 st1
  | r => r
def sSet (i : Nat) (f : EE) : SS := fun sd st => (f sd st).toS sd fun x st1 => .go .nx (sd.set i (some x)) st1
def sRet (f : EE) : SS := fun sd st => (f sd st).toS sd fun x st1 => .go (.ret x) sd st1
def sDrop (f : EE) : SS := fun sd st => (f sd st).toS sd fun _ st1 => .go .nx sd st1
def sIf (c : ET) (f g : SS) : SS := fun sd st => (c sd st).toS sd fun x st1 => if x = true then f sd st1 else g sd st1
def loopG (r : SR) (k : Sl → Sto → SR) : SR := match r with
  | .go .nx sd st => k sd st
  | .go .cnt sd st => k sd st
  | .go .brk sd st => .go .nx sd st
  | r => r
def sLoop (c : ET) (b : SS) : Nat → SS
  | 0 => fun _ _ => .stk
  | n + 1 => fun sd st => (c sd st).toS sd fun x st1 => if x = true then loopG (b sd st1) (sLoop c b n) else .go .nx sd st1
section
variable {G : Md} {W : WX} {te : TE} {t : TT} {ts tu : TS} {f : EE} {fs : EA} {c : ET} {a b : SS}
theorem sd_next : SD G W tNext sNext := fun w sv sd st Dn rel sl h => h w sv (Step.refl w) rel sl
theorem sd_seq (ha : SD G W ts a) (hb : SD G W tu b) : SD G W (tSeq ts tu) (sSeq a b) := by
  intro w sv sd st Dn rel sl h
  unfold sSeq at h
  refine ha w sv sd st _ rel sl ?_
  cases q : a sd st with
  | go fl sd1 st1 =>
    rw [q] at h
    cases fl with
    | nx => exact fun w2 sv2 s2 r2 sl2 => hb w2 sv2 sd1 st1 Dn r2 sl2 (PostS.step s2 h)
    | brk => exact h
    | cnt => exact h
    | ret d => exact h
  | ex e sd1 st1 =>
    rw [q] at h
    exact h
  | stk =>
    rw [q] at h
    exact h
theorem sd_set {i : Nat} (h : SE G (EW W) te f) : SD G W (tAsg te (gName i)) (sSet i f) := by
  intro w sv sd st Dn rel sl q
  refine h w sv sd st _ rel sl ((PostS.ofE sl q).imp ?_)
  rintro x _ ⟨w1, dx, st1, rfl, s1, r1, rx, h1⟩
  exact h1 w1 _ s1 r1 ((sl.step s1).set i rx)
theorem sd_ret (h : SE G (EW W) te f) : SD G W (tRet te) (sRet f) := by
  intro w sv sd st Dn rel sl q
  refine h w sv sd st _ rel sl ((PostS.ofE sl q).imp ?_)
  rintro x _ ⟨w1, dx, st1, rfl, s1, r1, rx, h1⟩
  exact h1 w1 _ s1 r1 rx
theorem sd_drop (h : SE G (EW W) te f) : SD G W (tDrop te) (sDrop f) := by
  intro w sv sd st Dn rel sl q
  refine h w sv sd st _ rel sl ((PostS.ofE sl q).imp ?_)
  rintro x _ ⟨w1, dx, st1, rfl, s1, r1, rx, h1⟩
  exact h1 w1 _ s1 r1 (sl.step s1)
theorem sd_if (hc : ST G (EW W) t c) (ha : SD G W ts a) (hb : SD G W tu b) : SD G W (tIfS t ts tu) (sIf c a b) := by
  intro w sv sd st Dn rel sl q
  refine hc w sv sd st _ rel sl ((PostS.ofE sl q).imp ?_)
  rintro x _ ⟨w1, y, st1, rfl, s1, r1, rfl, h1⟩
  have h1 := h1.step s1
  cases x with
  | true => exact ha w1 sv sd st1 Dn r1 (sl.step s1) h1
  | false => exact hb w1 sv sd st1 Dn r1 (sl.step s1) h1
theorem loop_post {w : Wd} {r : SR} {k : Sl → Sto → SR} {Dn : Ends} {N : L2.St → Hp → Prop} (h : PostS G w (loopG r k) Dn W)
    (hN : ∀ w' sv sd st, Step w w' → Rel G w' st → Slo G w' sv sd → PostS G w' (k sd st) Dn W → N sv w'.H) : PostS G w r { Dn with nx := N, ct := N, bk := Dn.nx } W := by
  cases r with
  | go fl sd st =>
    cases fl with
    | nx => exact fun w2 sv2 s2 r2 sl2 => hN w2 sv2 sd st s2 r2 sl2 (PostS.step s2 h)
    | brk => exact h
    | cnt => exact fun w2 sv2 s2 r2 sl2 => hN w2 sv2 sd st s2 r2 sl2 (PostS.step s2 h)
    | ret d => exact h
  | ex e sd st => exact h
  | stk => exact h
theorem sd_while {n : Nat} (hc : ST G (EW W) t c) (hb : SD G W ts b) : SD G W (tWhile t ts) (sLoop c b n) := by
  intro w sv sd st Dn rel sl q
  refine ⟨fun m sv H => ∃ w sd st, w.H = H ∧ Rel G w st ∧ Slo G w sv sd ∧ PostS G w (sLoop c b m sd st) Dn W, ⟨n, w, sd, st, rfl, rel, sl, q⟩, ?_⟩
  rintro m sv _ ⟨w, sd, st, rfl, rel, sl, q⟩
  cases m with
  | zero => exact q.elim
  | succ m =>
    refine hc w sv sd st _ rel sl ((PostS.ofE sl q).imp ?_)
    rintro x _ ⟨w1, y, st1, rfl, s1, r1, rfl, h1⟩
    have h1 := h1.step s1
    cases x with
    | true =>
      refine ⟨fun sv H => ∃ w sd st, w.H = H ∧ Rel G w st ∧ Slo G w sv sd ∧ PostS G w (sLoop c b m sd st) Dn W, fun sv' H' z => ⟨m, Nat.lt_succ_self m, z⟩, ?_⟩
      exact hb w1 sv sd st1 _ r1 (sl.step s1) (loop_post h1 fun w' sv' sd' st' s' r' sl' k => ⟨w', sd', st', rfl, r', sl', k⟩)
    | false => exact h1 w1 sv (Step.refl _) r1 (sl.step s1)
end
abbrev ItD := Sto → Nat → Option (Option D)
def ItOk (G : Md) (w1 : Wd) (J : It) (it : ItD) : Prop := ∀ w st, Step w1 w → Rel G w st → ∀ i,
  (∀ d, it st i = some (some d) → J.go i w.H ∧ ∀ x H', J.yld i w.H x H' → ∃ w', w'.H = H' ∧ Step w w' ∧ Rel G w' st ∧ Rep G w'.I w'.ph x d) ∧ (it st i = some none → J.stop i w.H)
def RI (G : Md) : RR It (ItD × Nat) := fun _ w' J it => ItOk G w' J it.1
theorem anI {G : Md} : An (RI G) := ⟨fun _ _ _ _ _ _ h => h⟩
abbrev EI := Sl → Sto → Res (ItD × Nat)
def SI (G : Md) (E : L2.St → XK) (wi : TI) (fi : EI) : Prop := ∀ w sv sd st R, Rel G w st → Slo G w sv sd → Post G (RI G) w (fi sd st) R (E sv) → wi sv w.H R
/-- targets -/
def SG (G : Md) (g : TG) (fg : D → SS) : Prop := ∀ w v d sv sd st Q, Rel G w st → Slo G w sv sd → Rep G w.I w.ph v d →
  PostS G w (fg d sd st) { nx := Q, rt := fun _ _ => False } (fun _ _ _ _ => False) → g v sv w.H Q
def gNameD (i : Nat) : D → SS := fun d sd st => .go .nx (sd.set i (some d)) st
theorem sg_name {G : Md} {i : Nat} : SG G (gName i) (gNameD i) := fun w v d sv sd st Q rel sl rx h => h w _ (Step.refl w) rel (sl.set i rx)
def gListD : List (D → SS) → List D → SS
  | [], [] => sNext
  | g :: gs, d :: ds => sSeq (g d) (gListD gs ds)
  | _, _ => fun _ _ => .stk
def gTupD (gs : List (D → SS)) : D → SS := fun d => match d with
  | .tup ds => fun sd st => if ds.length = gs.length then gListD gs ds sd st else .stk
  | _ => fun _ _ => .stk
inductive SGs (G : Md) : TGs → List (D → SS) → Prop
  | nil : SGs G gNil []
  | cons {g : TG} {u : TGs} {fg : D → SS} {fgs : List (D → SS)} : SG G g fg → SGs G u fgs → SGs G (gCons g u) (fg :: fgs)
theorem PostS.nx_imp {G : Md} {w : Wd} {r : SR} {N N' : L2.St → Hp → Prop} (h : PostS G w r { nx := N, rt := fun _ _ => False } (fun _ _ _ _ => False)) (k : ∀ sv H, N sv H → N' sv H) :
    PostS G w r { nx := N', rt := fun _ _ => False } (fun _ _ _ _ => False) := by
  cases r with
  | go fl sd st =>
    cases fl with
    | nx => exact fun w2 sv s2 r2 q => k _ _ (h w2 sv s2 r2 q)
    | brk => exact h
    | cnt => exact h
    | ret d => exact h
  | ex e sd st => exact h
  | stk => exact h
theorem ends_seq {G : Md} {w : Wd} {f g : SS} {sd : Sl} {st : Sto} {Q : L2.St → Hp → Prop} (h : PostS G w (sSeq f g sd st) { nx := Q, rt := fun _ _ => False } (fun _ _ _ _ => False)) :
    PostS G w (f sd st) { nx := fun sv H => ∃ w' sd' st', w'.H = H ∧ Step w w' ∧ Rel G w' st' ∧ Slo G w' sv sd' ∧ PostS G w' (g sd' st') { nx := Q, rt := fun _ _ => False } (fun _ _ _ _ => False), rt := fun _ _ => False } (fun _ _ _ _ => False) := by
  unfold sSeq at h
  cases q : f sd st with
  | go fl sd1 st1 =>
    rw [q] at h
    cases fl with
    | nx => exact fun w2 sv2 s2 r2 sl2 => ⟨w2, sd1, st1, rfl, s2, r2, sl2, PostS.step s2 h⟩
    | brk => exact h
    | cnt => exact h
    | ret d => exact h
  | ex e sd1 st1 =>
    rw [q] at h
    exact h
  | stk =>
    rw [q] at h
    exact h
theorem sgs_run {G : Md} {u : TGs} {fgs : List (D → SS)} (hs : SGs G u fgs) : ∀ (w : Wd) (vs : List V) (ds : List D) (sv : L2.St) (sd : Sl) (st : Sto) (Q : L2.St → Hp → Prop), Rel G w st → Slo G w sv sd → Reps G w.I w.ph vs ds →
    PostS G w (gListD fgs ds sd st) { nx := Q, rt := fun _ _ => False } (fun _ _ _ _ => False) → u vs sv w.H Q := by
  induction hs with
  | nil =>
    intro w vs ds sv sd st Q rel sl rs h
    cases ds with
    | nil => exact ⟨rs.inv_nil', h w sv (Step.refl w) rel sl⟩
    | cons d ds => exact h.elim
  | cons hg hu ih =>
    intro w vs ds sv sd st Q rel sl rs h
    cases ds with
    | nil => exact h.elim
    | cons d ds =>
      obtain ⟨v, vs', rfl, r1, r2⟩ := rs.inv_cons'
      refine ⟨v, vs', rfl, hg w v d sv sd st _ rel sl r1 ?_⟩
      refine (ends_seq (show PostS G w (sSeq _ _ sd st) _ _ from h)).nx_imp fun sv2 H2 ⟨w3, sd3, st3, e3, s3, r3, sl3, k3⟩ => ?_
      rw [← e3]
      exact ih w3 vs' ds sv2 sd3 st3 Q r3 sl3 (r2.step s3) k3
theorem sg_tup {G : Md} {u : TGs} {fgs : List (D → SS)} {n : Nat} (h : SGs G u fgs) (hn : fgs.length = n) : SG G (gTup G.K n u) (gTupD fgs) := by
  intro w v d sv sd st Q rel sl rx q
  cases d with
  | tup ds =>
    obtain ⟨a, vs, rfl, hq, rs⟩ := rx.tup_inv
    have q : PostS G w (if ds.length = fgs.length then gListD fgs ds sd st else .stk) { nx := Q, rt := fun _ _ => False } (fun _ _ _ _ => False) := q
    split at q
    · rename_i hl
      exact ⟨a, vs, rfl, Evl.ex_t rel.sub hq, by rw [rs.1, hl, hn], sgs_run h w vs ds sv sd st Q rel sl rs q⟩
    · exact q.elim
  | _ => exact q.elim
def tgtG (r : SR) (k : Sl → Sto → SR) : SR := match r with
  | .go .nx sd st => k sd st
  | _ => .stk
def sForN (it : ItD) (fg : D → SS) (b : SS) : Nat → Nat → SS
  | 0, _ => fun _ _ => .stk
  | n + 1, i => fun sd st => match it st i with
    | none => .stk
    | some none => .go .nx sd st
    | some (some d) => tgtG (fg d sd st) fun sd1 st1 => loopG (b sd1 st1) (sForN it fg b n (i + 1))
def sFor (fi : EI) (fg : D → SS) (b : SS) : SS := fun sd st => (fi sd st).toS sd fun it st1 => sForN it.1 fg b (it.2 + 1) 0 sd st1
theorem tgt_post {G : Md} {W : WX} {w : Wd} {r : SR} {k : Sl → Sto → SR} {Dn : Ends} (h : PostS G w (tgtG r k) Dn W) :
    PostS G w r { nx := fun sv H => ∃ w' sd' st', w'.H = H ∧ Step w w' ∧ Rel G w' st' ∧ Slo G w' sv sd' ∧ PostS G w' (k sd' st') Dn W, rt := fun _ _ => False } (fun _ _ _ _ => False) := by
  cases r with
  | go fl sd st =>
    cases fl with
    | nx => exact fun w2 sv2 s2 r2 sl2 => ⟨w2, sd, st, rfl, s2, r2, sl2, PostS.step s2 h⟩
    | brk => exact h.elim
    | cnt => exact h.elim
    | ret d => exact h.elim
  | ex e sd st => exact h.elim
  | stk => exact h.elim
section
variable {G : Md} {W : WX} {wi : TI} {fi : EI} {g : TG} {fg : D → SS} {ts : TS} {b : SS}
theorem sd_for (hi : SI G (EW W) wi fi) (hg : SG G g fg) (hb : SD G W ts b) : SD G W (tFor wi g ts) (sFor fi fg b) := by
  intro w sv sd st Dn rel sl q
  refine hi w sv sd st _ rel sl ((PostS.ofE sl q).imp ?_)
  rintro J _ ⟨w1, it, st1, rfl, s1, r1, hJ, h1⟩
  have h1 := h1.step s1
  have hJ : ItOk G w1 J it.1 := hJ
  refine ⟨fun i m sv H => ∃ w sd st, w.H = H ∧ Step w1 w ∧ Rel G w st ∧ Slo G w sv sd ∧ PostS G w (sForN it.1 fg b m i sd st) Dn W, ⟨it.2 + 1, w1, sd, st1, rfl, Step.refl _, r1, sl.step s1, h1⟩, ?_⟩
  rintro i m sv _ ⟨w, sd, st, rfl, s, rel, sl, q⟩
  cases m with
  | zero => exact q.elim
  | succ m =>
    have q : PostS G w (match it.1 st i with
      | none => .stk
      | some none => .go .nx sd st
      | some (some d) => tgtG (fg d sd st) fun sd1 st1 => loopG (b sd1 st1) (sForN it.1 fg b m (i + 1))) Dn W := q
    obtain ⟨hs, he⟩ := hJ w st s rel i
    cases e : it.1 st i with
    | none =>
      rw [e] at q
      exact q.elim
    | some od =>
    cases od with
    | none =>
      rw [e] at q
      exact .inl ⟨he e, q w sv (Step.refl _) rel sl⟩
    | some d =>
      rw [e] at q
      obtain ⟨hgo, hy⟩ := hs d e
      refine .inr ⟨hgo, fun sv H => ∃ w sd st, w.H = H ∧ Step w1 w ∧ Rel G w st ∧ Slo G w sv sd ∧ PostS G w (sForN it.1 fg b m (i + 1) sd st) Dn W, fun sv' H' z => ⟨m, Nat.lt_succ_self m, z⟩, fun x H' hx => ?_⟩
      obtain ⟨w2, rfl, s2, r2, rx⟩ := hy x H' hx
      refine hg w2 x d sv sd st _ r2 (sl.step s2) rx ((tgt_post (PostS.step s2 q)).nx_imp ?_)
      rintro sv3 _ ⟨w3, sd3, st3, rfl, s3, r3, sl3, q3⟩
      exact hb w3 sv3 sd3 st3 _ r3 sl3 (loop_post q3 fun w' sv' sd' st' s' r' sl' k => ⟨w', sd', st', rfl, ((s.trans s2).trans s3).trans s', r', sl', k⟩)
end
def Res.noex {a : Type} : Res a → Res a
  | .ok x st => .ok x st
  | _ => .stk
theorem noex_post {a b : Type} {G : Md} {R : RR b a} {w : Wd} {r : Res a} {Q : b → Hp → Prop} {W W' : XK} (h : Post G R w r.noex Q W) : Post G R w r Q W' := by
  cases r with
  | ok x st => exact h
  | ex c st => exact h.elim
  | stk => exact h.elim
def lcN (it : ItD) (fg : D → SS) (ft : ET) (fe : EE) : Nat → Nat → Sl → Sto → Res (List D)
  | 0, _ => fun _ _ => .stk
  | n + 1, i => fun sd st => match it st i with
    | none => .stk
    | some none => .ok [] st
    | some (some d) => match fg d sd st with
      | .go .nx sd1 st1 => (ft sd1 st1).noex.bind fun x st2 => if x = true then (fe sd1 st2).noex.bind fun y st3 => (lcN it fg ft fe n (i + 1) sd st3).bind fun ys st4 => .ok (y :: ys) st4 else lcN it fg ft fe n (i + 1) sd st2
      | _ => .stk
def fLc (fi : EI) (fg : D → SS) (ft : ET) (fe : EE) (vs : List Nat) : EA := fun sd st => (fi sd st).bind fun it st1 => if it.2 < lineN then lcN it.1 fg ft fe (it.2 + 1) 0 (wipeD sd vs) st1 else .stk
def eYes : ET := fun _ st => .ok true st
theorem st_yes {G : Md} {E : L2.St → XK} : ST G E tYes eYes := fun w sv sd st Q rel sl h => h w true (Step.refl w) rel rfl
/-- a target that stores nothing beside its own slots: gs are among the wiped ones -/
def Wipes (g : TG) (vs : List Nat) : Prop := ∀ x σ H (Q : L2.St → Hp → Prop), g x (L2.wipe σ vs) H Q → g x (L2.wipe σ vs) H fun σ2 H2 => L2.wipe σ2 vs = L2.wipe σ vs ∧ Q σ2 H2
theorem Post.assoc {a b c e : Type} {G : Md} {R : RR e c} {w : Wd} {r : Res a} {k : a → Sto → Res b} {l : b → Sto → Res c} {Q : e → Hp → Prop} {W : XK} (h : Post G R w ((r.bind k).bind l) Q W) : Post G R w (r.bind fun x st => (k x st).bind l) Q W := by
  cases r with
  | ok x st => exact h
  | ex c st => exact h
  | stk => exact h
/-- a list on the side, whose maker alone knows it, is changed -/
theorem step_side {u v : Wd} {p : Addr} {o : HO} (s : Step u v) (h : u.H p = none) : Step u ⟨v.I, v.ph, upd v.H p o⟩ := by
  refine ⟨s.im, s.px, s.newI, s.newP, fun a x ha n nt => ?_, fun a ha => ?_⟩
  · have hp : a ≠ p := fun z => by rw [z, h] at ha; cases ha
    show upd v.H p o a = some x
    rw [upd_ne hp]
    exact s.keep a x ha n nt
  · by_cases hp : a = p
    · rw [hp]; exact .inl h
    · exact s.live a (ha.eq (by show v.H a = upd v.H p o a; rw [upd_ne hp]))
theorem Rel.side {G : Md} {v : Wd} {st : Sto} {p : Addr} {o : HO} (r : Rel G v st) (hp : p ∉ v.ph) (hI : v.I p = none) (hL : ∃ us, v.H p = some (.lst us)) : Rel G ⟨v.I, v.ph, upd v.H p o⟩ st := by
  obtain ⟨us, hL⟩ := hL
  refine ⟨fun a x ha => ?_, r.len, r.nd, fun i a c hi hc => ?_, ⟨fun q hq => ?_, r.tab.no, fun j f c q hj => ?_⟩⟩
  rotate_left 3
  · have e2 := r.tab.lam j f c q hj
    have h1 : c ≠ p := fun z => by rw [z, hL] at e2; unfold LamX.CodeO at e2; cases e2
    show upd v.H p o c = _
    rw [upd_ne h1]
    exact e2
  rotate_left 2
  · obtain ⟨ps, k2, k3, k4⟩ := r.tab.at_ q hq
    refine ⟨ps, ?_, k3, fun pos cv hc => ?_⟩
    · have h1 : q.1 ≠ p := fun z => by rw [z, hL] at k2; cases k2
      show upd v.H p o q.1 = _
      rw [upd_ne h1]
      exact k2
    · obtain ⟨c, e1, e2⟩ := k4 pos cv hc
      have h1 : c ≠ p := fun z => by rw [z, hL] at e2; unfold LamX.CodeO at e2; cases e2
      refine ⟨c, e1, ?_⟩
      show upd v.H p o c = _
      rw [upd_ne h1]
      exact e2
  · have h1 : a ≠ p := fun z => by
      have ha : v.I a = some x := ha
      rw [z, hI] at ha; cases ha
    show upd v.H p o a = some x
    rw [upd_ne h1]
    exact r.sub a x ha
  · have h1 : a ≠ p := fun z => hp (z ▸ List.mem_of_getElem? hi)
    have k := r.cel i a c hi hc
    cases c with
    | lst ys =>
      obtain ⟨e0, us, e, z⟩ := k
      exact ⟨e0, us, by show upd v.H p o a = _; rw [upd_ne h1]; exact e, z⟩
    | dead =>
      obtain ⟨u, e, pl⟩ := k
      exact ⟨u, by show upd v.H p o a = _; rw [upd_ne h1]; exact e, pl⟩
    | ob j c fs =>
      refine ObOk.keep k (Evl.Ex.refl _) Px.refl fun b hb o' e1 _ e2 => ⟨?_, e2⟩
      have hn : b ≠ p := fun e => hp (e ▸ hb)
      show upd v.H p o b = _
      rw [upd_ne hn]
      exact e1
theorem stay {u v : Wd} {p : Addr} {o : HO} (s : Step u v) (h1 : u.H p = some o) (h2 : p ∉ u.ph) (h3 : u.I p = none) (nt : ∀ ps, o ≠ .tbl ps := by intro _ z; cases z) : v.H p = some o ∧ p ∉ v.ph ∧ v.I p = none := by
  refine ⟨s.keep p _ h1 h2 nt, fun z => ?_, ?_⟩
  · rcases s.newP p z with z | z
    · exact h2 z
    · exact z.no h1 nt
  cases hi : v.I p with
  | none => rfl
  | some x =>
    rcases s.newI p x hi with z | z | z
    · rw [h3] at z; cases z
    · exact (z.no h1 nt).elim
    · exact absurd z h2
theorem Post.bindAt {a b c d : Type} {G : Md} {R : RR b a} {R2 : RR d c} {w w3 : Wd} {r : Res a} {W : XK} {k : a → Sto → Res c} {Q2 : d → Hp → Prop} (s : Step w w3) (h : Post G R2 w (r.bind k) Q2 W) :
    Post G R w3 r (fun y H => ∃ w' x st', w'.H = H ∧ Step w3 w' ∧ Rel G w' st' ∧ R w3 w' y x ∧ Post G R2 w (k x st') Q2 W) W := by
  cases r with
  | ok x st => exact fun w2 y s2 r2 q => ⟨w2, x, st, rfl, s2, r2, q, h⟩
  | ex e st => exact fun w2 cls dd s2 r2 q => h w2 cls dd (s.trans s2) r2 q
  | stk => exact h
section
variable {G : Md} {E : L2.St → XK} {wi : TI} {fi : EI} {g : TG} {fg : D → SS} {tt : TT} {te : TE} {ft : ET} {fe : EE} {vs : List Nat}
theorem sf_lc (hi : SI G E wi fi) (hg : SG G g fg) (hw : Wipes g vs) (ht : ST G (EW fun _ _ _ _ => False) tt ft) (he : SE G (EW fun _ _ _ _ => False) te fe) : SF G E (tLc wi g tt te vs) (fLc fi fg ft fe vs) := by
  intro w0 sv sd st Q rel sl q
  refine hi w0 sv sd st _ rel sl ((Post.bind q).imp ?_)
  rintro J _ ⟨w1, it, st1, rfl, s1, r1, hJ, h1⟩
  have hJ : ItOk G w1 J it.1 := hJ
  intro Dl hD
  split at h1
  · rename_i hlim
    refine ⟨fun i m H => ∃ w st vacc acc, w.H = H ∧ Step w1 w ∧ Rel G w st ∧ H Dl = some (.lst vacc) ∧ Reps G w.I w.ph vacc acc ∧ Dl ∉ w.ph ∧ w.I Dl = none ∧ acc.length ≤ i ∧ i + m = it.2 + 1 ∧
      Post G (RF G) w0 ((lcN it.1 fg ft fe m i (wipeD sd vs) st).bind fun ys st' => .ok (acc ++ ys) st') Q (E sv),
      ⟨it.2 + 1, ⟨w1.I, w1.ph, upd w1.H Dl (.lst [])⟩, st1, [], [], rfl, ?_, ?_, upd_same, Reps.nil, r1.notIn hD, r1.noI hD, Nat.le_refl _, by omega, ?_⟩, ?_⟩
    · exact (fresh_lst r1 hD (ds := []) Reps.nil).1
    · exact (fresh_lst r1 hD (ds := []) Reps.nil).2
    · cases hq : lcN it.1 fg ft fe (it.2 + 1) 0 (wipeD sd vs) st1 with
      | ok ys st' =>
        rw [hq] at h1
        exact h1
      | ex c st' =>
        rw [hq] at h1
        exact h1
      | stk =>
        rw [hq] at h1
        exact h1
    · rintro i m _ ⟨w, st, vacc, acc, rfl, s, rel, hacc, racc, nD, iD, hl, him, q⟩
      cases m with
      | zero => exact q.elim
      | succ m =>
        obtain ⟨hs, hen⟩ := hJ w st s rel i
        have q : Post G (RF G) w0 ((match it.1 st i with
          | none => Res.stk
          | some none => Res.ok [] st
          | some (some d) => match fg d (wipeD sd vs) st with
            | .go .nx sd1 st1 => (ft sd1 st1).noex.bind fun x st2 => if x = true then (fe sd1 st2).noex.bind fun y st3 => (lcN it.1 fg ft fe m (i + 1) (wipeD sd vs) st3).bind fun ys st4 => .ok (y :: ys) st4 else lcN it.1 fg ft fe m (i + 1) (wipeD sd vs) st2
            | _ => .stk).bind fun ys st' => .ok (acc ++ ys) st') Q (E sv) := q
        cases e : it.1 st i with
        | none =>
          rw [e] at q
          exact q.elim
        | some od =>
        cases od with
        | none =>
          rw [e] at q
          refine .inl ⟨hen e, q w _ (s1.trans s) rel ⟨Dl, vacc, rfl, s1.live Dl (.inl hD), nD, iD, hacc, ?_⟩⟩
          rw [List.append_nil]
          exact racc
        | some d =>
          rw [e] at q
          obtain ⟨hgo, hy⟩ := hs d e
          refine .inr ⟨hgo, _, fun H' z => ⟨m, Nat.lt_succ_self m, z⟩, fun x H' hx => ?_⟩
          obtain ⟨w2, rfl, s2, r2, rx⟩ := hy x H' hx
          have sl2 : Slo G w2 (L2.wipe sv vs) (wipeD sd vs) := ((sl.step s1).step (s.trans s2)).wipe vs
          refine hw x sv w2.H _ (hg w2 x d _ _ st _ r2 sl2 rx ?_)
          have q : Post G (RF G) w0 ((match fg d (wipeD sd vs) st with
            | .go .nx sd1 st1 => (ft sd1 st1).noex.bind fun x st2 => if x = true then (fe sd1 st2).noex.bind fun y st3 => (lcN it.1 fg ft fe m (i + 1) (wipeD sd vs) st3).bind fun ys st4 => .ok (y :: ys) st4 else lcN it.1 fg ft fe m (i + 1) (wipeD sd vs) st2
            | _ => .stk).bind fun ys st' => .ok (acc ++ ys) st') Q (E sv) := q
          cases hq : fg d (wipeD sd vs) st with
          | go fl sd1 st1' =>
            rw [hq] at q
            cases fl with
            | nx =>
              intro w3 sv3 s3 r3 sl3
              have q := (q : Post G (RF G) w0 (((ft sd1 st1').noex.bind fun x st2 => if x = true then (fe sd1 st2).noex.bind fun y st3 => (lcN it.1 fg ft fe m (i + 1) (wipeD sd vs) st3).bind fun ys st4 => Res.ok (y :: ys) st4 else lcN it.1 fg ft fe m (i + 1) (wipeD sd vs) st2).bind fun ys st' => .ok (acc ++ ys) st') Q (E sv))
              have d2 := s2.keep Dl _ hacc nD (by intro _ z; cases z)
              have nD2 : Dl ∉ w2.ph := fun z => (s2.newP Dl z).elim nD fun z => (z.no hacc (by intro _ z; cases z)).elim
              have d3 := s3.keep Dl _ d2 nD2 (by intro _ z; cases z)
              obtain ⟨a1, a2, a3⟩ := stay s2 hacc nD iD
              obtain ⟨b1, b2, b3⟩ := stay s3 a1 a2 a3
              have S3 : Step w1 w3 := (s.trans s2).trans s3
              refine ht w3 sv3 sd1 st1' _ r3 sl3 (noex_post ((Post.bindAt (s1.trans S3) (Post.assoc q)).imp ?_))
              rintro x4 _ ⟨w4, x4', st4, rfl, s4, r4, rfl, q4⟩
              obtain ⟨c1, c2, c3⟩ := stay s4 b1 b2 b3
              cases x4 with
              | true =>
                have q4 : Post G (RF G) w0 (((fe sd1 st4).noex.bind fun y st3 => (lcN it.1 fg ft fe m (i + 1) (wipeD sd vs) st3).bind fun ys st4 => Res.ok (y :: ys) st4).bind fun ys st' => .ok (acc ++ ys) st') Q (E sv) := q4
                refine he w4 sv3 sd1 st4 _ r4 (sl3.step s4) (noex_post ((Post.bindAt ((s1.trans S3).trans s4) (Post.assoc q4)).imp ?_))
                rintro y _ ⟨w5, dy, st5, rfl, s5, r5, ry, q5⟩
                obtain ⟨e1, e2, e3⟩ := stay s5 c1 c2 c3
                have tot : Step w w5 := ((s2.trans s3).trans s4).trans s5
                refine ⟨vacc, e1, Evl.sz_lt (by rw [racc.1]; unfold lineN at hlim; omega), ⟨w5.I, w5.ph, upd w5.H Dl (.lst (vacc ++ [y]))⟩, st5, vacc ++ [y], acc ++ [dy], rfl, step_side (s.trans tot) hD, r5.side e2 e3 ⟨_, e1⟩, upd_same, (racc.step tot).append (Reps.cons ry Reps.nil), e2, e3, by simp; omega, by omega, ?_⟩
                cases hz : lcN it.1 fg ft fe m (i + 1) (wipeD sd vs) st5 with
                | ok ys st6 =>
                  rw [hz] at q5
                  show Post G (RF G) w0 (Res.ok (acc ++ [dy] ++ ys) st6) Q (E sv)
                  rw [List.append_assoc]
                  exact q5
                | ex c st6 =>
                  rw [hz] at q5
                  exact q5
                | stk =>
                  rw [hz] at q5
                  exact q5
              | false =>
                have q4 : Post G (RF G) w0 ((lcN it.1 fg ft fe m (i + 1) (wipeD sd vs) st4).bind fun ys st' => .ok (acc ++ ys) st') Q (E sv) := q4
                exact ⟨w4, st4, vacc, acc, rfl, S3.trans s4, r4, c1, racc.step ((s2.trans s3).trans s4), c2, c3, by omega, by omega, q4⟩
            | brk => exact q.elim
            | cnt => exact q.elim
            | ret d => exact q.elim
          | ex c sd1 st1' =>
            rw [hq] at q
            exact q.elim
          | stk =>
            rw [hq] at q
            exact q.elim
  · exact h1.elim
end
end DS
namespace DS
open PySem PySem.Spec PyProof.Rows L2
mutual
def D.noH : D → Bool
  | .hnd _ => false
  | .tup xs => D.noHs xs
  | .lst xs => D.noHs xs
  | .scr xs => D.noHs xs
  | .dic kvs => D.noHk kvs
  | .obj _ fs => D.noHk fs
  | _ => true
def D.noHs : List D → Bool
  | [] => true
  | x :: xs => x.noH && D.noHs xs
def D.noHk : List (Str × D) → Bool
  | [] => true
  | x :: xs => x.2.noH && D.noHk xs
end
mutual
def D.noL : D → Bool
  | .hnd _ => false
  | .tup xs => D.noLs xs
  | .lst _ => false
  | .scr _ => false
  | .dic _ => false
  | .obj _ fs => D.noLk fs
  | _ => true
def D.noLs : List D → Bool
  | [] => true
  | x :: xs => x.noL && D.noLs xs
def D.noLk : List (Str × D) → Bool
  | [] => true
  | x :: xs => x.2.noL && D.noLk xs
end
theorem noLk_get {ds : List (Str × D)} {i : Nat} {d : Str × D} (h : D.noLk ds = true) (e : ds[i]? = some d) : d.2.noL = true := by
  induction ds generalizing i with
  | nil => simp at e
  | cons x xs ih =>
    have h : (x.2.noL && D.noLk xs) = true := h
    rw [Bool.and_eq_true] at h
    cases i with
    | zero => simp at e; rw [← e]; exact h.1
    | succ i => exact ih h.2 (by simpa using e)
theorem noHs_get {ds : List D} {i : Nat} {d : D} (h : D.noHs ds = true) (e : ds[i]? = some d) : d.noH = true := by
  induction ds generalizing i with
  | nil => simp at e
  | cons x xs ih =>
    have h : (x.noH && D.noHs xs) = true := h
    rw [Bool.and_eq_true] at h
    cases i with
    | zero => simp at e; rw [← e]; exact h.1
    | succ i => exact ih h.2 (by simpa using e)
theorem noHk_get {ds : List (Str × D)} {i : Nat} {d : Str × D} (h : D.noHk ds = true) (e : ds[i]? = some d) : d.2.noH = true := by
  induction ds generalizing i with
  | nil => simp at e
  | cons x xs ih =>
    have h : (x.2.noH && D.noHk xs) = true := h
    rw [Bool.and_eq_true] at h
    cases i with
    | zero => simp at e; rw [← e]; exact h.1
    | succ i => exact ih h.2 (by simpa using e)
theorem noLs_get {ds : List D} {i : Nat} {d : D} (h : D.noLs ds = true) (e : ds[i]? = some d) : d.noL = true := by
  induction ds generalizing i with
  | nil => simp at e
  | cons x xs ih =>
    have h : (x.noL && D.noLs xs) = true := h
    rw [Bool.and_eq_true] at h
    cases i with
    | zero => simp at e; rw [← e]; exact h.1
    | succ i => exact ih h.2 (by simpa using e)
section
variable {G : Md} {I I' : Hp} {ph ph' : List Addr} {v : V} {d : D} {vs : List V} {ds : List D}
theorem Rep.anyPh (h : Rep G I ph v d) (n : d.noH = true) : Rep G I ph' v d := by
  induction h with
  | non => exact .non
  | bl b => exact .bl b
  | int i => exact .int i
  | str s => exact .str s
  | ty m => exact .ty m
  | glo h => exact .glo h
  | hnd h => cases n
  | tup h1 h2 _ ih => exact .tup h1 h2 fun i v d a b => ih i v d a b (noHs_get n b)
  | lst h1 h2 _ ih => exact .lst h1 h2 fun i v d a b => ih i v d a b (noHs_get n b)
  | scr h1 h2 _ ih => exact .scr h1 h2 fun i v d a b => ih i v d a b (noHs_get n b)
  | dic h1 h2 h3 _ ih => exact .dic h1 h2 h3 fun i p q a b => ih i p q a b (noHk_get n b)
  | obj h1 h2 h3 h4 h5 _ ih => exact .obj h1 h2 h3 h4 h5 fun i v q a b => ih i v q a b (noHk_get n b)
  | lam h1 => exact .lam h1
theorem Reps.anyPh (h : Reps G I ph vs ds) (n : D.noHs ds = true) : Reps G I ph' vs ds := ⟨h.1, fun i v d a b => (h.2 i v d a b).anyPh (noHs_get n b)⟩
/-- what holds no list needs the lists no more -/
theorem Rep.noLists (h : Rep G I ph v d) (n : d.noL = true) (k : ∀ a o, I a = some o → (∃ xs, o = .lst xs) ∨ I' a = some o) : Rep G I' ph' v d := by
  induction h with
  | non => exact .non
  | bl b => exact .bl b
  | int i => exact .int i
  | str s => exact .str s
  | ty m => exact .ty m
  | glo h => exact .glo h
  | hnd h => cases n
  | tup h1 h2 _ ih =>
    refine .tup ?_ h2 fun i v d a b => ih i v d a b (noLs_get n b)
    rcases h1 with (h1 | ⟨o, h1⟩) | h1
    · rcases k _ _ h1 with ⟨xs, z⟩ | z
      · cases z
      · exact .inl (.inl z)
    · rcases k _ _ h1 with ⟨xs, z⟩ | z
      · cases z
      · exact .inl (.inr ⟨o, z⟩)
    · exact .inr h1
  | lst h1 h2 _ ih => cases n
  | scr h1 h2 _ ih => cases n
  | dic h1 h2 h3 _ ih => cases n
  | obj h1 h2 h3 h4 h5 _ ih =>
    have z3 := (k _ _ h3).resolve_left fun ⟨xs, z⟩ => slO_lst z
    have z4 := (k _ _ h4).resolve_left fun ⟨xs, z⟩ => nomatch z
    exact .obj h1 h2 z3 z4 h5 fun i v q a b => ih i v q a b (noLk_get n b)
  | lam h1 => exact .lam h1
end
abbrev FF := Sto → List D → Res D
def spD (G : Md) (n : Nat) (f : FF) : Sp := fun vs H Q E => vs.length = n ∧ ∃ w st ds, w.H = H ∧ Rel G w st ∧ Reps G w.I w.ph vs ds ∧ Post G (RE G) w (f st ds) Q E
/-- what stays of a cell among the first n -/
def Cell.mayGo (n : Nat) : Cell → Bool
  | .lst xs => D.noHs xs
  | .dead => true
  | .ob j _ fs => decide (j < n) && fs.all fun q => match q.2 with
    | some d => d.noH
    | none => true
def finD (n : Nat) (d : D) (st : Sto) : Res D := if d.noH && (st.take n).all (Cell.mayGo n) then .ok d (st.take n) else .stk
def Exc.noH (c : Exc) : Bool := match c.arg with
  | none => true
  | some q => q.2.noH
def finX {a : Type} (n : Nat) (c : Exc) (st : Sto) : Res a := if c.noH && (st.take n).all (Cell.mayGo n) then .ex c (st.take n) else .stk
def fnD (nl : Nat) (body : SS) : FF := fun st ds => match body (ds.map some ++ List.replicate nl none) st with
  | .go (.ret d) _ st' => finD st.length d st'
  | .go .nx _ st' => finD st.length .non st'
  | .ex c _ st' => finX st.length c st'
  | _ => .stk
section
variable {G : Md} {w w' : Wd} {st st' : Sto}
theorem px_len {p q : List Addr} (h : Px p q) : p.length ≤ q.length := by
  cases hp : p.length with
  | zero => exact Nat.zero_le _
  | succ n =>
    have h1 : n < p.length := by omega
    have := (List.getElem?_eq_some_iff.mp (h n _ (List.getElem?_eq_getElem h1))).1
    omega
/-- behind a def: its own lists are forgotten -/
theorem back (rel : Rel G w st) (s : Step w w') (r : Rel G w' st') (hc : (st'.take st.length).all (Cell.mayGo st.length) = true) :
    Step w ⟨w'.I, w.ph, w'.H⟩ ∧ Rel G ⟨w'.I, w.ph, w'.H⟩ (st'.take st.length) := by
  have hl := px_len s.px
  refine ⟨⟨s.im, Px.refl, s.newI, fun _ h => .inl h, s.keep, s.live⟩, ⟨r.sub, ?_, rel.nd, fun i a c hi hs => ?_, ⟨r.tab.at_, r.tab.no, r.tab.lam⟩⟩⟩
  · rw [List.length_take, ← rel.len, ← r.len]
    exact (Nat.min_eq_left hl).symm
  · have hi : w.ph[i]? = some a := hi
    have hs2 : st'[i]? = some c := by
      rw [List.getElem?_take] at hs
      split at hs
      · exact hs
      · cases hs
    have k := r.cel i a c (s.px i a hi) hs2
    have hm := List.all_eq_true.mp hc c (List.mem_of_getElem? hs)
    cases c with
    | lst xs =>
      obtain ⟨e0, us, e, z⟩ := k
      exact ⟨e0, us, e, z.anyPh hm⟩
    | dead => exact k
    | ob j c fs =>
      have hm : (decide (j < st.length) && fs.all fun q => match q.2 with
        | some d => d.noH
        | none => true) = true := hm
      rw [Bool.and_eq_true, decide_eq_true_eq, List.all_eq_true] at hm
      refine ObOk.gen k (List.mem_of_getElem? hi) (fun b e => ?_) (fun i q d v e1 e2 r => r.anyPh ?_) fun b _ o' e1 _ e2 => ⟨e1, e2⟩
      · have hb : j < w.ph.length := by rw [rel.len]; exact hm.1
        have e4 := s.px j _ (List.getElem?_eq_getElem hb)
        rw [List.getElem?_eq_getElem hb]
        rw [e4] at e
        exact e
      · have z := hm.2 q (List.mem_of_getElem? e1)
        rw [e2] at z
        exact z
theorem fin_ok {v : V} {d : D} {Q : VK} {E : XK} (rel : Rel G w st) (h : Post G (RE G) w (finD st.length d st') Q E) (s : Step w w') (r : Rel G w' st') (rv : Rep G w'.I w'.ph v d) : Q v w'.H := by
  unfold finD at h
  split at h
  · rename_i hc
    rw [Bool.and_eq_true] at hc
    obtain ⟨s2, r2⟩ := back rel s r hc.2
    exact h ⟨w'.I, w.ph, w'.H⟩ v s2 r2 (rv.anyPh hc.1)
  · exact h.elim
theorem finX_ok {a b : Type} {R : RR b a} {c : Exc} {cls : Value} {dd : Option Addr} {Q : b → Hp → Prop} {E : XK} (rel : Rel G w st) (h : Post G R w (finX st.length c st') Q E) (s : Step w w') (r : Rel G w' st') (rx : ExR G w' c cls dd) : E cls dd w'.H := by
  unfold finX at h
  split at h
  · rename_i hc
    rw [Bool.and_eq_true] at hc
    obtain ⟨s2, r2⟩ := back rel s r hc.2
    refine h ⟨w'.I, w.ph, w'.H⟩ cls dd s2 r2 ⟨rx.1, ?_⟩
    have hx := rx.2
    cases q : c.arg with
    | none =>
      rw [q] at hx
      exact hx
    | some p =>
      rw [q] at hx
      obtain ⟨a, v, e1, e2, e3⟩ := hx
      have hn := hc.1
      unfold Exc.noH at hn
      rw [q] at hn
      exact ⟨a, v, e1, e2, e3.anyPh hn⟩
  · exact h.elim
theorem entry_slots {N : List Str} {nl : Nat} {vs : List V} {ds : List D} (hN : N.length = vs.length + nl) (rs : Reps G w.I w.ph vs ds) : Slo G w (L2.start N vs) (ds.map some ++ List.replicate nl none) := by
  refine ⟨?_, fun i d e => ?_⟩
  · unfold L2.start
    have h1 := rs.1
    simp only [List.length_append, List.length_map, List.length_replicate]
    omega
  · by_cases hi : i < ds.length
    · rw [List.getElem?_append_left (by simpa using hi), List.getElem?_map] at e
      cases q : ds[i]? with
      | none => rw [q] at e; cases e
      | some x =>
        rw [q] at e
        simp at e
        subst e
        obtain ⟨v, a, b⟩ := rs.get q
        refine ⟨v, ?_, b⟩
        unfold L2.start
        rw [List.getElem?_append_left (by simpa [rs.1] using hi), List.getElem?_map, a]
        rfl
    · rw [List.getElem?_append_right (by simpa using hi), List.getElem?_replicate] at e
      split at e <;> cases e
/-- a body's function, at a def's entry -/
theorem fnD_run {W : WX} {ts : TS} {body : SS} {nl : Nat} {N : List Str} {vs : List V} {ds : List D} {Q : VK} {E : XK} (hb : SD G W ts body) (hW : ∀ cls d σ H, E cls d H → W cls d σ H) (hN : N.length = vs.length + nl)
    (rel : Rel G w st) (rs : Reps G w.I w.ph vs ds) (h : Post G (RE G) w (fnD nl body st ds) Q E) : ts { nx := fun _ H' => Q .non H', rt := Q } (L2.start N vs) w.H := by
  have sl := entry_slots hN rs
  refine hb w _ _ st _ rel sl ?_
  unfold fnD at h
  cases q : body (ds.map some ++ List.replicate nl none) st with
  | go fl sd st' =>
    rw [q] at h
    cases fl with
    | nx => exact fun w2 sv s2 r2 _ => fin_ok rel h s2 r2 .non
    | brk => exact (show False from h).elim
    | cnt => exact (show False from h).elim
    | ret d => exact fun w2 v s2 r2 rv => fin_ok rel h s2 r2 rv
  | ex c sd st' =>
    rw [q] at h
    exact fun w2 sv cls dd s2 r2 _ rx => hW _ _ _ _ (finX_ok rel h s2 r2 rx)
  | stk =>
    rw [q] at h
    exact (show False from h).elim
end
def snap (st : Sto) : D → Option D
  | .hnd i => match st[i]? with
    | some (.lst xs) => if D.noHs xs then some (.lst xs) else none
    | _ => none
  | d => if d.noH then some d else none
def snaps (st : Sto) : List D → Option (List D)
  | [] => some []
  | d :: ds => match snap st d, snaps st ds with
    | some x, some xs => some (x :: xs)
    | _, _ => none
def callR (st : Sto) (b : Bool) : Res D → Res D
  | .ok d [] => if b || d.noL then .ok d st else .stk
  | .ex c [] => if b then .ex c st else .stk
  | _ => .stk
def callB (st : Sto) (h : Nat) : Res D → Res D
  | .ok d [.lst ys] => if d.noH && D.noHs ys then .ok d (st.set h (.lst ys)) else .stk
  | _ => .stk
section
variable {G : Md}
/-- the caller's world behind a def that was shown nothing of its lists -/
theorem after0 {w w' : Wd} {st : Sto} (rel : Rel G w st) (s : Step ⟨w.I, [], w.H⟩ w') (r : Rel G w' []) : Step w ⟨w'.I, w.ph, w'.H⟩ ∧ Rel G ⟨w'.I, w.ph, w'.H⟩ st := by
  refine ⟨⟨s.im, Px.refl, fun a o h => ?_, fun _ h => .inl h, fun a o h _ nt => s.keep a o h (by simp) nt, s.live⟩, ⟨r.sub, rel.len, rel.nd, fun i a c hi hs => ?_, ⟨r.tab.at_, r.tab.no, r.tab.lam⟩⟩⟩
  · rcases s.newI a o h with z | z | z
    · exact .inl z
    · exact .inr (.inl z)
    · exact absurd z (by simp)
  · have k := rel.cel i a c hi hs
    cases c with
    | lst xs =>
      obtain ⟨e0, us, e, z⟩ := k
      refine ⟨?_, us, s.keep _ _ e (by simp) (by intro _ z; cases z), z.mono s.im Px.refl⟩
      show w'.I a = none
      cases q : w'.I a with
      | none => rfl
      | some o =>
        rcases s.newI a o q with z | z | z
        · rw [show (⟨w.I, [], w.H⟩ : Wd).I a = w.I a from rfl, e0] at z; cases z
        · exact (z.no e (by intro _ z; cases z)).elim
        · exact absurd z (by simp)
    | dead =>
      obtain ⟨u, e, pl⟩ := k
      exact ⟨u, s.keep _ _ e (by simp) pl.1, pl⟩
    | ob j c fs =>
      refine ObOk.keep k s.im Px.refl fun b hb o' e1 _ e2 => ⟨s.keep _ _ e1 (by simp) (rel.kinds hb e1).1, ?_⟩
      show w'.I b = none
      cases q : w'.I b with
      | none => rfl
      | some o =>
        rcases s.newI b o q with z | z | z
        · rw [show (⟨w.I, [], w.H⟩ : Wd).I b = w.I b from rfl, e2] at z; cases z
        · exact (z.no e1 (rel.kinds hb e1).1).elim
        · exact absurd z (by simp)
theorem rel0 {w : Wd} {st : Sto} (rel : Rel G w st) : Rel G ⟨w.I, [], w.H⟩ [] := ⟨rel.sub, rfl, List.nodup_nil, fun i a c hi _ => by simp at hi, ⟨rel.tab.at_, rel.tab.no, rel.tab.lam⟩⟩
theorem ph_nil {w : Wd} (r : Rel G w []) : w.ph = [] := List.length_eq_zero_iff.mp r.len
theorem call_plain {w : Wd} {st : Sto} {f : FF} {vs : List V} {ds : List D} {Q : VK} {E : XK} {n : Nat} (rel : Rel G w st) (rs : Reps G w.I w.ph vs ds) (hn : D.noHs ds = true) (hl : vs.length = n)
    (h : Post G (RE G) w (callR st true (f [] ds)) Q E) : spD G n f vs w.H Q E := by
  refine ⟨hl, ⟨w.I, [], w.H⟩, [], ds, rfl, rel0 rel, rs.anyPh hn, ?_⟩
  cases q : f [] ds with
  | ok d st' =>
    rw [q] at h
    cases st' with
    | nil =>
      intro w' v s r rv
      obtain ⟨s2, r2⟩ := after0 rel s r
      have h : Post G (RE G) w (Res.ok d st) Q E := h
      refine h ⟨w'.I, w.ph, w'.H⟩ v s2 r2 (Rep.mono (Evl.Ex.refl _) (fun i a e => ?_) rv)
      rw [ph_nil r] at e
      simp at e
    | cons _ _ => exact (show False from h).elim
  | ex c st' =>
    rw [q] at h
    cases st' with
    | nil =>
      intro w' cls dd s r rx
      obtain ⟨s2, r2⟩ := after0 rel s r
      have h : Post G (RE G) w (Res.ex c st) Q E := h
      refine h ⟨w'.I, w.ph, w'.H⟩ cls dd s2 r2 ⟨rx.1, ?_⟩
      have hx := rx.2
      cases z : c.arg with
      | none =>
        rw [z] at hx
        exact hx
      | some p =>
        rw [z] at hx
        obtain ⟨a, v, e1, e2, e3⟩ := hx
        refine ⟨a, v, e1, e2, Rep.mono (Evl.Ex.refl _) (fun i a e => ?_) e3⟩
        rw [ph_nil r] at e
        simp at e
    | cons _ _ => exact (show False from h).elim
  | stk =>
    rw [q] at h
    exact (show False from h).elim
/-- the lists that may change, as they stand -/
def Live (w : Wd) (st : Sto) (a : Addr) : Prop := ∃ (i : Nat) (xs : List D), w.ph[i]? = some a ∧ st[i]? = some (Cell.lst xs)
open Classical in
noncomputable def shown (w : Wd) (st : Sto) : Hp := fun a => if Live w st a then w.H a else w.I a
open Classical in
noncomputable def hidden (w : Wd) (st : Sto) (I' : Hp) : Hp := fun a => if Live w st a then none else I' a
theorem live_at {w : Wd} {st : Sto} {a : Addr} (rel : Rel G w st) (h : Live w st a) : w.I a = none ∧ ∃ vs, w.H a = some (.lst vs) := by
  obtain ⟨i, xs, h1, h2⟩ := h
  obtain ⟨e0, vs, e, _⟩ := rel.cel i a _ h1 h2
  exact ⟨e0, vs, e⟩
theorem shown_up {w : Wd} {st : Sto} (rel : Rel G w st) : Evl.Ex w.I (shown w st) ∧ Evl.Ex (shown w st) w.H := by
  refine ⟨fun a o h => ?_, fun a o h => ?_⟩
  · unfold shown
    by_cases ha : Live w st a
    · rw [(live_at rel ha).1] at h; cases h
    · rw [if_neg ha]; exact h
  · unfold shown at h
    by_cases ha : Live w st a
    · rw [if_pos ha] at h; exact h
    · rw [if_neg ha] at h; exact rel.sub a o h
theorem snap_rep {w : Wd} {st : Sto} {v : V} {d x : D} (rel : Rel G w st) (rv : Rep G w.I w.ph v d) (h : snap st d = some x) : Rep G (shown w st) [] v x := by
  have plain : ∀ d : D, Rep G w.I w.ph v d → (if d.noH then some d else none) = some x → Rep G (shown w st) [] v x := fun d rv h => by
    split at h
    · rename_i hn
      cases h
      exact (rv.mono (shown_up rel).1 Px.refl).anyPh hn
    · cases h
  cases d with
  | hnd i =>
    obtain ⟨a, rfl, hi⟩ := rv.hnd_inv
    have h : (match st[i]? with
      | some (.lst xs) => if D.noHs xs then some (D.lst xs) else none
      | _ => none) = some x := h
    cases q : st[i]? with
    | none => rw [q] at h; cases h
    | some c =>
      rw [q] at h
      cases c with
      | dead => cases h
      | ob j c fs => cases h
      | lst xs =>
        have h : (if D.noHs xs then some (D.lst xs) else none) = some x := h
        split at h
        · rename_i hn
          cases h
          obtain ⟨e0, vs, e, z⟩ := rel.cel i a _ hi q
          refine Rep.lst' (vs := vs) ?_ ((z.mono (shown_up rel).1 Px.refl).anyPh hn)
          unfold shown
          rw [if_pos ⟨i, xs, hi, q⟩]
          exact e
        · cases h
  | non => exact plain _ rv h
  | bl b => exact plain _ rv h
  | int i => exact plain _ rv h
  | str s => exact plain _ rv h
  | ty n => exact plain _ rv h
  | glo n => exact plain _ rv h
  | tup xs => exact plain _ rv h
  | lst xs => exact plain _ rv h
  | scr xs => exact plain _ rv h
  | dic xs => exact plain _ rv h
  | obj c xs => exact plain _ rv h
  | lam j => exact plain _ rv h
theorem snaps_rep {w : Wd} {st : Sto} (rel : Rel G w st) : ∀ {vs : List V} {ds xs : List D}, Reps G w.I w.ph vs ds → snaps st ds = some xs → Reps G (shown w st) [] vs xs
  | vs, [], xs, rs, h => by
    have h : some [] = some xs := h
    cases h
    rw [rs.inv_nil']
    exact Reps.nil
  | vs, d :: ds, xs, rs, h => by
    obtain ⟨v, vs', rfl, r1, r2⟩ := rs.inv_cons'
    have h : (match snap st d, snaps st ds with
      | some x, some xs => some (x :: xs)
      | _, _ => none) = some xs := h
    cases q1 : snap st d with
    | none => rw [q1] at h; cases h
    | some x =>
      cases q2 : snaps st ds with
      | none => rw [q1, q2] at h; cases h
      | some ys =>
        rw [q1, q2] at h
        cases h
        exact Reps.cons (snap_rep rel r1 q1) (snaps_rep rel r2 q2)
theorem call_snap {w : Wd} {st : Sto} {f : FF} {vs : List V} {ds : List D} {Q : VK} {E : XK} {n : Nat} (rel : Rel G w st) (rs : Reps G (shown w st) [] vs ds) (hl : vs.length = n)
    (h : Post G (RE G) w (callR st false (f [] ds)) Q E) : spD G n f vs w.H Q E := by
  have tb : TabOk G ⟨shown w st, [], w.H⟩ := rel.tab.sameH (fun _ => rfl) fun a ps e1 => by
    have e1 : shown w st a = some (.tbl ps) := e1
    unfold shown at e1
    by_cases ha : Live w st a
    · obtain ⟨_, us, e⟩ := live_at rel ha
      rw [if_pos ha, e] at e1; cases e1
    · rw [if_neg ha] at e1; exact rel.tab.no a ps e1
  refine ⟨hl, ⟨shown w st, [], w.H⟩, [], ds, rfl, ⟨(shown_up rel).2, rfl, List.nodup_nil, fun i a c hi _ => by simp at hi, tb⟩, rs, ?_⟩
  cases q : f [] ds with
  | ok d st' =>
    rw [q] at h
    cases st' with
    | nil =>
      intro w' v s r rv
      have h : Post G (RE G) w (if (false || d.noL) = true then Res.ok d st else Res.stk) Q E := h
      split at h
      · rename_i hn
        have hn : d.noL = true := hn
        have key : ∀ a, Live w st a → ∃ vs, w'.I a = some (.lst vs) := fun a ha => by
          obtain ⟨_, us, e⟩ := live_at rel ha
          exact ⟨us, s.im a _ (by show shown w st a = _; unfold shown; rw [if_pos ha]; exact e)⟩
        have sub : Evl.Ex (hidden w st w'.I) w'.H := fun a o e => by
          unfold hidden at e
          by_cases ha : Live w st a
          · rw [if_pos ha] at e; cases e
          · rw [if_neg ha] at e; exact r.sub a o e
        have im : Evl.Ex w.I (hidden w st w'.I) := fun a o e => by
          unfold hidden
          by_cases ha : Live w st a
          · rw [(live_at rel ha).1] at e; cases e
          · rw [if_neg ha]
            exact s.im a o ((shown_up rel).1 a o e)
        refine h ⟨hidden w st w'.I, w.ph, w'.H⟩ v ⟨im, Px.refl, fun a o e => ?_, fun _ h => .inl h, fun a o e _ nt => s.keep a o e (by simp) nt, s.live⟩ ⟨sub, rel.len, rel.nd, fun i a c hi hs => ?_, r.tab.sameH (fun _ => rfl) fun a ps e1 => (by
          have e1 : hidden w st w'.I a = some (.tbl ps) := e1
          unfold hidden at e1
          by_cases ha : Live w st a
          · rw [if_pos ha] at e1; cases e1
          · rw [if_neg ha] at e1; exact r.tab.no a ps e1)⟩ (rv.noLists hn fun a o e => ?_)
        · have e : hidden w st w'.I a = some o := e
          unfold hidden at e
          by_cases ha : Live w st a
          · rw [if_pos ha] at e; cases e
          · rw [if_neg ha] at e
            rcases s.newI a o e with z | z | z
            · have z : shown w st a = some o := z
              unfold shown at z
              rw [if_neg ha] at z
              exact .inl z
            · exact .inr (.inl z)
            · exact absurd z (by simp)
        · have k := rel.cel i a c hi hs
          cases c with
          | lst xs =>
            obtain ⟨e0, us, e, z⟩ := k
            refine ⟨?_, us, s.keep _ _ e (by simp) (by intro _ z; cases z), z.mono im Px.refl⟩
            show hidden w st w'.I a = none
            unfold hidden
            rw [if_pos ⟨i, xs, hi, hs⟩]
          | dead =>
            obtain ⟨u, e, pl⟩ := k
            exact ⟨u, s.keep _ _ e (by simp) pl.1, pl⟩
          | ob j c fs =>
            refine ObOk.keep k im Px.refl fun b hbb o' e1 _ e2 => ⟨s.keep _ _ e1 (by simp) (rel.kinds hbb e1).1, ?_⟩
            show hidden w st w'.I b = none
            unfold hidden
            by_cases hb : Live w st b
            · rw [if_pos hb]
            · rw [if_neg hb]
              cases q : w'.I b with
              | none => rfl
              | some o =>
                rcases s.newI b o q with z | z | z
                · have z : shown w st b = some o := z
                  unfold shown at z
                  rw [if_neg hb, e2] at z; cases z
                · exact (z.no e1 (rel.kinds hbb e1).1).elim
                · exact absurd z (by simp)
        · by_cases ha : Live w st a
          · obtain ⟨us, z⟩ := key a ha
            rw [e] at z
            exact .inl ⟨us, Option.some.inj z⟩
          · refine .inr ?_
            show hidden w st w'.I a = some o
            unfold hidden
            rw [if_neg ha]
            exact e
      · exact (show False from h).elim
    | cons _ _ => exact (show False from h).elim
  | ex c st' =>
    rw [q] at h
    cases st' with
    | nil => exact (show False from h).elim
    | cons _ _ => exact (show False from h).elim
  | stk =>
    rw [q] at h
    exact (show False from h).elim
theorem call_bag {w : Wd} {st : Sto} {f : FF} {v : V} {vs : List V} {ds : List D} {xs : List D} {i : Nat} {Q : VK} {E : XK} {n : Nat} (rel : Rel G w st) (rv : Rep G w.I w.ph v (.hnd i)) (hs : st[i]? = some (.lst xs)) (hx : D.noHs xs = true)
    (rs : Reps G w.I w.ph vs ds) (hn : D.noHs ds = true) (hl : (v :: vs).length = n) (h : Post G (RE G) w (callB st i (f [.lst xs] (.hnd 0 :: ds))) Q E) : spD G n f (v :: vs) w.H Q E := by
  obtain ⟨a, rfl, hi⟩ := rv.hnd_inv
  obtain ⟨e0, us, e, z⟩ := rel.cel i a _ hi hs
  have one : ∀ (j : Nat) (b : Addr), ([a] : List Addr)[j]? = some b → j = 0 ∧ b = a := fun j b hj => by
    cases j with
    | zero => simp at hj; exact ⟨rfl, hj.symm⟩
    | succ j => simp at hj
  refine ⟨hl, ⟨w.I, [a], w.H⟩, [.lst xs], .hnd 0 :: ds, rfl, ⟨rel.sub, rfl, by simp, fun j b c hj hc => ?_, ⟨rel.tab.at_, rel.tab.no, rel.tab.lam⟩⟩, Reps.cons (.hnd rfl) (rs.anyPh hn), ?_⟩
  · obtain ⟨rfl, rfl⟩ := one j b hj
    simp at hc
    subst hc
    exact ⟨e0, us, e, z.anyPh hx⟩
  · cases q : f [.lst xs] (.hnd 0 :: ds) with
    | ok d st' =>
      rw [q] at h
      cases st' with
      | nil => exact (show False from h).elim
      | cons c r =>
        cases r with
        | cons _ _ => cases c <;> exact (show False from h).elim
        | nil =>
          cases c with
          | dead => exact (show False from h).elim
          | ob j c fs => exact (show False from h).elim
          | lst ys =>
            intro w' v s r rv'
            have h : Post G (RE G) w (if (d.noH && D.noHs ys) = true then Res.ok d (st.set i (.lst ys)) else Res.stk) Q E := h
            split at h
            · rename_i hh
              rw [Bool.and_eq_true] at hh
              have hph : w'.ph = [a] := by
                have l := r.len
                have p := s.px 0 a rfl
                cases q2 : w'.ph with
                | nil => rw [q2] at l; cases l
                | cons b t =>
                  rw [q2] at l p
                  cases t with
                  | nil => simp at p; rw [p]
                  | cons _ _ => simp at l
              obtain ⟨f0, us', f1, f2⟩ := r.cel 0 a _ (by rw [hph]; rfl) rfl
              refine h ⟨w'.I, w.ph, w'.H⟩ v ⟨s.im, Px.refl, fun b o hb => ?_, fun _ h => .inl h, fun b o hb nb nt => s.keep b o hb (fun m => nb ?_) nt, s.live⟩ ⟨r.sub, by rw [List.length_set]; exact rel.len, rel.nd, fun j b c hj hc => ?_, ⟨r.tab.at_, r.tab.no, r.tab.lam⟩⟩ (rv'.anyPh hh.1)
              · rcases s.newI b o hb with m | m | m
                · exact .inl m
                · exact .inr (.inl m)
                · refine .inr (.inr ?_)
                  have m : b ∈ [a] := m
                  simp at m
                  rw [m]
                  exact List.mem_of_getElem? hi
              · have m : b ∈ [a] := m
                simp at m
                rw [m]
                exact List.mem_of_getElem? hi
              · have hj : w.ph[j]? = some b := hj
                by_cases ej : i = j
                · subst ej
                  rw [hi] at hj
                  cases hj
                  have hlt : i < st.length := (List.getElem?_eq_some_iff.mp hs).1
                  rw [List.getElem?_set_self hlt] at hc
                  cases hc
                  exact ⟨f0, us', f1, f2.anyPh hh.2⟩
                · rw [List.getElem?_set_ne ej] at hc
                  have hb : b ≠ a := fun zz => by
                    subst zz
                    obtain ⟨h1, e1⟩ := List.getElem?_eq_some_iff.mp hi
                    obtain ⟨h2, e2⟩ := List.getElem?_eq_some_iff.mp hj
                    exact ej ((List.getElem_inj rel.nd).mp (e1.trans e2.symm))
                  have nb : b ∉ ([a] : List Addr) := by simpa using hb
                  have k := rel.cel j b c hj hc
                  cases c with
                  | lst zs =>
                    obtain ⟨g0, gs, g1, g2⟩ := k
                    refine ⟨?_, gs, s.keep _ _ g1 nb (by intro _ z; cases z), g2.mono s.im Px.refl⟩
                    show w'.I b = none
                    cases q3 : w'.I b with
                    | none => rfl
                    | some o =>
                      rcases s.newI b o q3 with m | m | m
                      · rw [show (⟨w.I, [a], w.H⟩ : Wd).I b = w.I b from rfl, g0] at m; cases m
                      · exact (m.no g1 (by intro _ z; cases z)).elim
                      · exact absurd m nb
                  | dead =>
                    obtain ⟨u, e, pl⟩ := k
                    exact ⟨u, s.keep _ _ e nb pl.1, pl⟩
                  | ob j c fs =>
                    have ne : ∀ y o', w.H y = some o' → (∀ xs, o' ≠ .lst xs) → y ∉ ([a] : List Addr) := fun y o' y1 y2 y3 => by
                      have y3 : y = a := by simpa using y3
                      rw [y3, e] at y1
                      exact y2 us (Option.some.inj y1).symm
                    refine ObOk.keep k s.im Px.refl fun y hy o' y1 y2 y3 => ⟨s.keep _ _ y1 (ne y o' y1 y2) (rel.kinds hy y1).1, ?_⟩
                    show w'.I y = none
                    cases q3 : w'.I y with
                    | none => rfl
                    | some o =>
                      rcases s.newI y o q3 with m | m | m
                      · rw [show (⟨w.I, [a], w.H⟩ : Wd).I y = w.I y from rfl, y3] at m; cases m
                      · exact (m.no y1 (rel.kinds hy y1).1).elim
                      · exact absurd m (ne y o' y1 y2)
            · exact (show False from h).elim
    | ex c st' =>
      rw [q] at h
      exact (show False from h).elim
    | stk =>
      rw [q] at h
      exact (show False from h).elim
end
end DS
namespace DS
open PySem PySem.Spec PyProof.Rows L2
def cellAt (st : Sto) (i : Nat) : Option (List D) := match st[i]? with
  | some (.lst xs) => some xs
  | _ => none
def tupOf : D → Option (List D)
  | .tup xs => some xs
  | _ => none
/-- a list that is tracked -/
def lstH (st : Sto) : D → Option (List D)
  | .lst xs => some xs
  | .hnd i => cellAt st i
  | _ => none
def lstOf (st : Sto) : D → Option (List D)
  | .scr xs => some xs
  | d => lstH st d
def seqOf (st : Sto) : D → Option (List D)
  | .tup xs => some xs
  | d => lstOf st d
section
variable {G : Md} {w : Wd} {st : Sto} {v : V} {d : D} {xs : List D}
theorem cell_rep {i : Nat} (rel : Rel G w st) (h : Rep G w.I w.ph v (.hnd i)) (e : cellAt st i = some xs) : ∃ a vs, v = .ref a ∧ w.ph[i]? = some a ∧ w.I a = none ∧ w.H a = some (.lst vs) ∧ Reps G w.I w.ph vs xs := by
  obtain ⟨a, rfl, hi⟩ := h.hnd_inv
  unfold cellAt at e
  cases q : st[i]? with
  | none => rw [q] at e; cases e
  | some c =>
    rw [q] at e
    cases c with
    | dead => cases e
    | ob j c fs => cases e
    | lst ys =>
      cases e
      obtain ⟨e0, vs, e1, e2⟩ := rel.cel i a _ hi q
      exact ⟨a, vs, rfl, hi, e0, e1, e2⟩
theorem tup_rep (rel : Rel G w st) (h : Rep G w.I w.ph v d) (e : tupOf d = some xs) : ∃ a vs, v = .ref a ∧ SqT G.K w.H a vs ∧ Reps G w.I w.ph vs xs := by
  cases d with
  | tup ys =>
    cases e
    obtain ⟨a, vs, rfl, h1, h2⟩ := h.tup_inv
    exact ⟨a, vs, rfl, Evl.ex_t rel.sub h1, h2⟩
  | _ => cases e
theorem lstH_rep (rel : Rel G w st) (h : Rep G w.I w.ph v d) (e : lstH st d = some xs) : ∃ a vs, v = .ref a ∧ w.H a = some (.lst vs) ∧ Reps G w.I w.ph vs xs := by
  cases d with
  | lst ys =>
    cases e
    obtain ⟨a, vs, rfl, h1, h2⟩ := h.lst_inv
    exact ⟨a, vs, rfl, rel.sub _ _ h1, h2⟩
  | hnd i =>
    obtain ⟨a, vs, e1, _, _, e2, e3⟩ := cell_rep rel h e
    exact ⟨a, vs, e1, e2, e3⟩
  | _ => cases e
theorem lst_rep (rel : Rel G w st) (h : Rep G w.I w.ph v d) (e : lstOf st d = some xs) : ∃ a vs, v = .ref a ∧ SqL G.K w.H a vs ∧ Reps G w.I w.ph vs xs := by
  cases d with
  | scr ys =>
    cases e
    cases h with
    | scr h1 h2 h3 => exact ⟨_, _, rfl, Evl.ex_l rel.sub h1, h2, h3⟩
  | lst ys =>
    obtain ⟨a, vs, e1, e2, e3⟩ := lstH_rep rel h e
    exact ⟨a, vs, e1, SqL.of e2, e3⟩
  | hnd i =>
    obtain ⟨a, vs, e1, e2, e3⟩ := lstH_rep rel h e
    exact ⟨a, vs, e1, SqL.of e2, e3⟩
  | _ => cases e
theorem seq_rep (rel : Rel G w st) (h : Rep G w.I w.ph v d) (e : seqOf st d = some xs) : ∃ a vs, v = .ref a ∧ (SqL G.K w.H a vs ∨ SqT G.K w.H a vs) ∧ Reps G w.I w.ph vs xs := by
  cases d with
  | tup ys =>
    obtain ⟨a, vs, e1, e2, e3⟩ := tup_rep rel h (show tupOf (.tup ys) = some xs from e)
    exact ⟨a, vs, e1, .inr e2, e3⟩
  | scr ys =>
    obtain ⟨a, vs, e1, e2, e3⟩ := lst_rep rel h e
    exact ⟨a, vs, e1, .inl e2, e3⟩
  | lst ys =>
    obtain ⟨a, vs, e1, e2, e3⟩ := lst_rep rel h e
    exact ⟨a, vs, e1, .inl e2, e3⟩
  | hnd i =>
    obtain ⟨a, vs, e1, e2, e3⟩ := lst_rep rel h e
    exact ⟨a, vs, e1, .inl e2, e3⟩
  | _ => cases e
theorem int_rep {i : Int} (h : Rep G w.I w.ph v (.int i)) : v = .int i := by
  cases h with
  | int => rfl
theorem bl_rep {b : Bool} (h : Rep G w.I w.ph v (.bl b)) : v = .bl b := by
  cases h with
  | bl => rfl
theorem str_rep {s : Str} (h : Rep G w.I w.ph v (.str s)) : v = .str s := by
  cases h with
  | str => rfl
theorem non_rep (h : Rep G w.I w.ph v .non) : v = .non := by
  cases h with
  | non => rfl
end
def ints2 (g : Int → Int → Option D) : Sto → D → D → Option D := fun _ x y => match x, y with
  | .int i, .int j => g i j
  | _, _ => none
theorem opd_ints {G : Md} {r : R2} {g : Int → Int → Option D} (h : ∀ i j d (H : Hp) (Q : VK), g i j = some d → (∀ v, (∀ I ph, Rep G I ph v d) → Q v H) → r (.int i) (.int j) H Q) : OpD G r (ints2 g) := by
  intro w st x y dx dy d Q rel rx ry e q
  unfold ints2 at e
  split at e
  · rename_i i j
    rw [int_rep rx, int_rep ry]
    exact h i j d w.H Q e fun v hv => q w v (Step.refl w) rel (hv _ _)
  · cases e
theorem OpD.or {G : Md} {r r' : R2} {g g' : Sto → D → D → Option D} (h : OpD G r g) (h' : OpD G r' g') : OpD G (fun x y H Q => r x y H Q ∨ r' x y H Q) (fun st x y => (g st x y).or (g' st x y)) := by
  intro w st x y dx dy d Q rel rx ry e q
  have e : (g st dx dy).or (g' st dx dy) = some d := e
  cases h1 : g st dx dy with
  | some d' =>
    rw [h1] at e
    have e : some d' = some d := e
    cases e
    exact .inl (h w st x y dx dy d Q rel rx ry h1 q)
  | none =>
    rw [h1] at e
    exact .inr (h' w st x y dx dy d Q rel rx ry e q)
section
variable {G : Md}
theorem d_add : OpD G (rI0 fun i j => .int (i + j)) (ints2 fun i j => some (.int (i + j))) := opd_ints fun i j d H Q e q => ⟨i, j, rfl, rfl, q _ fun I ph => by cases e; exact .int _⟩
theorem d_sub : OpD G (rI0 fun i j => .int (i - j)) (ints2 fun i j => some (.int (i - j))) := opd_ints fun i j d H Q e q => ⟨i, j, rfl, rfl, q _ fun I ph => by cases e; exact .int _⟩
def small64 (i : Int) : Bool := decide (-(2 ^ 64) < i) && decide (i < 2 ^ 64)
def mulI (i j : Int) : Option D := if small64 i || (small64 j || decide (i.natAbs.log2 + j.natAbs.log2 < 1000000)) then some (.int (i * j)) else none
theorem mulI_ok {i j : Int} {d : D} (e : mulI i j = some d) : d = .int (i * j) ∧ (CMul i j ∨ CMulW i j) := by
  unfold mulI at e
  split at e
  · rename_i h
    cases e
    refine ⟨rfl, ?_⟩
    simp only [small64, Bool.or_eq_true, Bool.and_eq_true, decide_eq_true_eq] at h
    rcases h with h | h | h
    · exact .inl (.inl h)
    · exact .inl (.inr h)
    · exact .inr h
  · cases e
def rMulI : R2 := fun x y H Q => rI CMul (fun i j => .int (i * j)) x y H Q ∨ rI CMulW (fun i j => .int (i * j)) x y H Q
theorem op_mulI {X : Cx} : OpR X (binaryOp .Mult) rMulI := op_mul.or op_mulW
theorem d_mul : OpD G rMulI (ints2 mulI) := opd_ints fun i j d H Q e q => by
  obtain ⟨rfl, h | h⟩ := mulI_ok e
  · exact .inl ⟨i, j, rfl, rfl, h, q _ fun I ph => .int _⟩
  · exact .inr ⟨i, j, rfl, rfl, h, q _ fun I ph => .int _⟩
def modI (i j : Int) : Option D := if 0 < j then some (.int (i % j)) else none
theorem d_mod : OpD G (rI (fun _ j => 0 < j) fun i j => .int (i % j)) (ints2 modI) := opd_ints fun i j d H Q e q => by
  unfold modI at e
  split at e
  · rename_i h
    cases e
    exact ⟨i, j, rfl, rfl, h, q _ fun I ph => .int _⟩
  · cases e
def divI (i j : Int) : Option D := if 0 < j ∧ j.natAbs.log2 < 9000 then some (.int (i / j)) else none
theorem d_fdiv : OpD G (rI CDivW fun i j => .int (i / j)) (ints2 divI) := opd_ints fun i j d H Q e q => by
  unfold divI at e
  split at e
  · rename_i h
    cases e
    exact ⟨i, j, rfl, rfl, h, q _ fun I ph => .int _⟩
  · cases e
def powI (i j : Int) : Option D := if 0 ≤ j ∧ j ≤ 1000000 ∧ i.natAbs < 2 ^ 64 then some (.int (i ^ j.toNat)) else none
theorem d_pow : OpD G (rI CPow fun i j => .int (i ^ j.toNat)) (ints2 powI) := opd_ints fun i j d H Q e q => by
  unfold powI at e
  split at e
  · rename_i h
    cases e
    exact ⟨i, j, rfl, rfl, h, q _ fun I ph => .int _⟩
  · cases e
theorem d_lt : OpD G (rI0 fun i j => .bl (decide (i < j))) (ints2 fun i j => some (.bl (decide (i < j)))) := opd_ints fun i j d H Q e q => ⟨i, j, rfl, rfl, q _ fun I ph => by cases e; exact .bl _⟩
theorem d_le : OpD G (rI0 fun i j => .bl (decide (i ≤ j))) (ints2 fun i j => some (.bl (decide (i ≤ j)))) := opd_ints fun i j d H Q e q => ⟨i, j, rfl, rfl, q _ fun I ph => by cases e; exact .bl _⟩
theorem d_gt : OpD G (rI0 fun i j => .bl (decide (j < i))) (ints2 fun i j => some (.bl (decide (j < i)))) := opd_ints fun i j d H Q e q => ⟨i, j, rfl, rfl, q _ fun I ph => by cases e; exact .bl _⟩
def negD : Sto → D → Option D := fun _ x => match x with
  | .int i => some (.int (-i))
  | _ => none
theorem d_neg : UnD G (rU fun i => .int (-i)) negD := by
  intro w st x dx d Q rel rx e q
  unfold negD at e
  split at e
  · rename_i i
    cases e
    rw [int_rep rx]
    exact ⟨i, rfl, q w _ (Step.refl w) rel (.int _)⟩
  · cases e
/-- tuple + tuple -/
def catT : Sto → D → D → Option D := fun _ x y => match x, y with
  | .tup xs, .tup ys => if xs.length + ys.length ≤ lineN then some (.tup (xs ++ ys)) else none
  | _, _ => none
theorem d_catT : OpD G (rCatA G.K) catT := by
  intro w st x y dx dy d Q rel rx ry e q
  unfold catT at e
  split at e
  · rename_i xs ys
    split at e
    · rename_i hl
      cases e
      obtain ⟨a, vs, rfl, h1, h2⟩ := rx.tup_inv
      obtain ⟨b, us, rfl, k1, k2⟩ := ry.tup_inv
      refine ⟨a, b, vs, us, rfl, rfl, Evl.ex_t rel.sub h1, Evl.ex_t rel.sub k1, line_ok (by rw [h2.1, k2.1]; exact hl), fun z => ?_, fun _ z => ?_, fun _ _ p hp => ?_⟩
      · subst z
        have : xs = [] := List.length_eq_zero_iff.mp (by rw [← h2.1]; rfl)
        subst this
        exact q w _ (Step.refl w) rel ry
      · subst z
        have : ys = [] := List.length_eq_zero_iff.mp (by rw [← k2.1]; rfl)
        subst this
        rw [List.append_nil] at q
        exact q w _ (Step.refl w) rel rx
      · exact q (w.addI p (.tup (vs ++ us))) _ (step_addI rel hp) (rel.addI hp) (Rep.tup' (SqT.of upd_same) ((h2.append k2).step (step_addI rel hp)))
    · cases e
  · cases e
def addStr : Sto → D → D → Option D := fun _ x y => match x, y with
  | .str a, .str b => if a.length + b.length ≤ lineN then some (.str (a ++ b)) else none
  | _, _ => none
def rAddStr : R2 := fun x y H Q => ∃ i j, x = .str i ∧ y = .str j ∧ i.length + j.length ≤ sizeLine ∧ Q (.str (i ++ j)) H
theorem d_addStr : OpD G rAddStr addStr := by
  intro w st x y dx dy d Q rel rx ry e q
  unfold addStr at e
  split at e
  · rename_i a b
    split at e
    · rename_i hl
      cases e
      rw [str_rep rx, str_rep ry]
      exact ⟨a, b, rfl, rfl, line_ok hl, q w _ (Step.refl w) rel (.str _)⟩
    · cases e
  · cases e
/-- + of ints, texts, tuples -/
def addD : Sto → D → D → Option D := fun st x y => ((ints2 fun i j => some (.int (i + j))) st x y).or ((addStr st x y).or (catT st x y))
def rAddD (K : PySem.W.Frag) : R2 := fun x y H Q => (rI0 fun i j => .int (i + j)) x y H Q ∨ (fun x y H Q => rAddStr x y H Q ∨ rCatA K x y H Q) x y H Q
theorem op_addD {X : Cx} : OpR X (binaryOp .Add) (rAddD X.K) := op_add.or (op_add_str.or op_catA)
theorem d_addD : OpD G (rAddD G.K) addD := d_add.or (d_addStr.or d_catT)
/-- tuple * int -/
def repT : Sto → D → D → Option D := fun _ x y => match x, y with
  | .tup xs, .int k => if xs ≠ [] ∧ 2 ≤ k ∧ k ≤ 1000 ∧ xs.length ≤ 1000 then some (.tup (List.replicate k.toNat xs).flatten) else none
  | _, _ => none
theorem Reps.flat {I : Hp} {ph : List Addr} {vs : List V} {ds : List D} (h : Reps G I ph vs ds) : ∀ n : Nat, Reps G I ph (List.replicate n vs).flatten (List.replicate n ds).flatten
  | 0 => Reps.nil
  | n + 1 => by
    rw [List.replicate_succ, List.replicate_succ, List.flatten_cons, List.flatten_cons]
    exact h.append (h.flat n)
theorem d_repT : OpD G (rRepT G.K) repT := by
  intro w st x y dx dy d Q rel rx ry e q
  unfold repT at e
  split at e
  · rename_i xs k
    split at e
    · rename_i hl
      cases e
      obtain ⟨a, vs, rfl, h1, h2⟩ := rx.tup_inv
      rw [int_rep ry]
      refine ⟨a, k, vs, rfl, rfl, Evl.ex_t rel.sub h1, fun z => hl.1 (List.length_eq_zero_iff.mp (by rw [← h2.1, z]; rfl)), hl.2.1, hl.2.2.1, by rw [h2.1]; exact hl.2.2.2, fun p hp => ?_⟩
      exact q (w.addI p (.tup (List.replicate k.toNat vs).flatten)) _ (step_addI rel hp) (rel.addI hp) (Rep.tup' (SqT.of upd_same) ((h2.flat k.toNat).step (step_addI rel hp)))
    · cases e
  · cases e
def mulD : Sto → D → D → Option D := fun st x y => (ints2 mulI st x y).or (repT st x y)
def rMulD (K : PySem.W.Frag) : R2 := fun x y H Q => rMulI x y H Q ∨ rRepT K x y H Q
theorem op_mulD {X : Cx} : OpR X (binaryOp .Mult) (rMulD X.K) := op_mulI.or op_repT
theorem d_mulD : OpD G (rMulD G.K) mulD := d_mul.or d_repT
def fRep : Sto → D → D → Option (List D) := fun st x y => match lstH st x, y with
  | some xs, .int k => if -(2 ^ 63) ≤ k ∧ k < 2 ^ 63 ∧ xs.length * k.toNat ≤ lineN then some (List.replicate k.toNat xs).flatten else none
  | _, _ => none
theorem f_rep : OpF G rRep fRep := by
  intro w st x y dx dy d Q rel rx ry e q
  unfold fRep at e
  split at e
  · rename_i xs k e1
    split at e
    · rename_i hl
      cases e
      obtain ⟨a, vs, rfl, h1, h2⟩ := lstH_rep rel rx e1
      rw [int_rep ry]
      refine ⟨a, k, vs, rfl, rfl, h1, hl.1, hl.2.1, line_ok (by rw [h2.1]; exact hl.2.2), fun p hp => ?_⟩
      have k2 := fresh_lst (vs := (List.replicate k.toNat vs).flatten) rel hp (h2.flat k.toNat)
      exact q ⟨w.I, w.ph, upd w.H p (.lst (List.replicate k.toNat vs).flatten)⟩ _ k2.1 k2.2 ⟨p, _, rfl, .inl hp, rel.notIn hp, rel.noI hp, upd_same, h2.flat k.toNat⟩
    · cases e
  · cases e
end
end DS
namespace DS
open PySem PySem.Spec PyProof.Rows L2
open AutoSeq1 (wpAny_loadPart')
theorem newEnumT (t : Addr) (zs : Array Value) (k : Nat) (dc : Option Addr) (sl : Array (Option Value)) :
    Meets (Builtin.«enumerate.__new__» ⟨[.type "enumerate", .ref t], []⟩) (fun _ R u => u.heap.get? t = some { cls := .type "tuple", dict := dc, data := .seq zs k, slots := sl } ∧
      R (.ok (.ret (.ref (u.heap.push { cls := .type "tuple_iterator", data := .fields #[.ref t, .int 0 0] }).objs.size)))
        { u with heap := (u.heap.push { cls := .type "tuple_iterator", data := .fields #[.ref t, .int 0 0] }).push { cls := .type "enumerate", data := .fields #[.none, .bool false, .ref u.heap.objs.size, rawInt 0, .none, .none] } }) :=
  .of_wp fun prog w A R u h => by
    obtain ⟨hp, gg, dd, tk, os⟩ := u; obtain ⟨hl, h⟩ := h
    have hsub2 := sub_enumerate
    have hT : Heap.IsTuple (Shared.heap ⟨hp, gg, dd, tk, os⟩) t zs := ⟨_, hl, rfl, k, rfl⟩
    wp_walk using wpAny_loadPart' hl
    refine wpAny_stack_any fun stk => wpAny_pure ?_
    split
    · rename_i cc _ _ _ _ _
      cases (cc == Value.type "enumerate")
      · wp_walk using wpAny_loadPart' hl, wpAny_pyIter_tuple hT
        exact ⟨_, rfl, h⟩
      · wp_walk using wpAny_loadPart' hl, wpAny_pyIter_tuple hT
        exact ⟨_, rfl, h⟩
    · wp_walk using wpAny_loadPart' hl, wpAny_pyIter_tuple hT
      exact ⟨_, rfl, h⟩
theorem callEnumT {prog : Program} {w : World} {A : Around} {E : Value → Shared → Prop} {s : Shared} {t : Addr} {zs : Array Value} {Q : Value → Shared → Prop} (hT : s.heap.IsTuple t zs)
    (h : ∀ h', IsEnum h' (s.heap.objs.size + 1) s.heap.objs.size 0 .none → h'.IsTupleIter s.heap.objs.size t 0 → (∀ b o, s.heap.get? b = some o → h'.get? b = some o) → Q (.ref (s.heap.objs.size + 1)) { s with heap := h' }) :
    wpAny (model prog w) A (call (.type "enumerate") [.ref t]) Q E s := by
  obtain ⟨⟨c, dct, dt, sl⟩, hl, hc, n, hd⟩ := hT
  have hc : c = .type "tuple" := hc
  have hd : dt = .seq zs n := hd
  subst hc hd
  refine callType_new F.called_enumerate (by decide) (F.typeCall_enumerate_1 _) (F.newCall_enumerate_1 _) (fun ob => F.args_object_init_2 ob _) F.entry_enumerate_new (newEnumT t zs n dct sl) ⟨hl, ?_⟩
  have hz : (s.heap.push { cls := .type "tuple_iterator", data := .fields #[.ref t, .int 0 0] }).objs.size = s.heap.objs.size + 1 := Heap.size_push ..
  show _ ∧ _
  rw [hz]
  have he : IsEnum ((s.heap.push { cls := .type "tuple_iterator", data := .fields #[.ref t, .int 0 0] }).push { cls := .type "enumerate", data := .fields #[.none, .bool false, .ref s.heap.objs.size, rawInt 0, .none, .none] }) (s.heap.objs.size + 1) s.heap.objs.size 0 .none := by
    have z := Heap.get?_push_size (s.heap.push { cls := .type "tuple_iterator", data := .fields #[.ref t, .int 0 0] }) (o := { cls := .type "enumerate", data := .fields #[.none, .bool false, .ref s.heap.objs.size, rawInt 0, .none, .none] }) rfl
    rw [hz] at z; exact z
  exact ⟨⟨_, he, rfl⟩, h _ he ⟨_, Heap.get?_push_of_some _ (Heap.get?_push_size _ rfl), rfl, rfl⟩ fun b o x => Heap.get?_push_of_some _ (Heap.get?_push_of_some _ x)⟩
def Itu (K : PySem.W.Frag) (a : Addr) : It :=
  ⟨fun i H => ∃ (xs : List V) (x : V), SqT K H a xs ∧ xs[i]? = some x, fun i H v H' => ∃ T x, v = .ref T ∧ H T = none ∧ H' = upd H T (.tup [.int (i : Nat), x]) ∧ ∀ xs, SqT K H a xs → xs[i]? = some x, fun i H => ∃ xs : List V, SqT K H a xs ∧ xs.length ≤ i⟩
theorem turn_enumT {P : Program} {w : World} {K : PySem.W.Frag} {elts : List Expr} {kk : Nat} {tpos : Pos} (a e it : Addr) :
    Turn P w K (.Tuple elts kk tpos) (Itu K a) [e, it] e (fun i h => (∃ old, IsEnum h e it ((i : Nat) : Int) old) ∧ h.IsTupleIter it a i ∧ e ≠ it) where
  mem := by simp
  obj := fun i h st b hb => by
    obtain ⟨⟨old, he⟩, ⟨o, ho, hc, hd⟩, _⟩ := st
    rcases (by simpa using hb : b = e ∨ b = it) with z | z
    · rw [z]; exact ⟨_, he, fun v q => nomatch q⟩
    · rw [z]; exact ⟨o, ho, fun v q => by rw [hd] at q; cases q⟩
  keep := fun i h h' st k => by
    obtain ⟨⟨old, he⟩, hi, hne⟩ := st
    exact ⟨⟨old, k e (by simp) _ he⟩, hi.at fun o q => k it (by simp) o q, hne⟩
  item := by
    intro X hP hw hK hc i pins s σ H E I hf st hg
    subst hP hw hK
    obtain ⟨⟨old, he⟩, hit, hne⟩ := st
    obtain ⟨xs, x, hq, hx⟩ := hg
    obtain ⟨its, rv, p, hz⟩ := I.tuple hq
    obtain ⟨u0, hu, ru⟩ := rv.get hx
    have hel : e < s.heap.objs.size := Heap.lt_size he
    have hil : it < s.heap.objs.size := by obtain ⟨_, q, _⟩ := hit; exact Heap.lt_size q
    obtain ⟨oT, hoT, hcT, _⟩ := id p
    have hai : a ≠ it := fun z => by
      obtain ⟨o, ho, hcc, _⟩ := hit
      rw [← z, hoT] at ho
      cases ho
      rw [hcT] at hcc
      exact absurd hcc (by decide)
    have hae : a ≠ e := fun z => by
      have he : s.heap.get? e = some _ := he
      rw [← z, hoT] at he
      cases he
      exact absurd (show Value.type "enumerate" = Value.type "tuple" from hcT) (by decide)
    have Dw := Draws.tuple (prog := X.prog) (w := X.w) (A := X.A.in1) (I.ok.hd hc) it a hai its.toArray
    have hlt : i < its.toArray.size := by
      have z := (List.getElem?_eq_some_iff.mp hu).1
      simpa using z
    refine wpAny_pyNext_enum_itemD Dw he ⟨hit, p⟩ hlt hne (by simp; exact ⟨hne, fun z => hae z.symm⟩) fun u h' tk hPu ho hst' hT hsz hk => ?_
    have hPu : its.toArray[i]? = some u := hPu
    have eu : u0 = u := by simpa [hu] using hPu
    subst eu
    have hit' : h'.IsTupleIter it a (i + 1) := hst'.1
    refine ⟨_, rfl, wpAny_letOwnedTupleGo_enum (s := { s with heap := h', toks := tk + 1 }) ho fun h'' he' sb => ?_⟩
    have hT2 : h''.get? s.heap.objs.size = some { cls := .type "tuple", data := .seq #[.int i tk, u0] } := (sb.2 _ (Nat.ne_of_gt hel)).trans hT
    have new : ObjOk X.prog X.w (upd H s.heap.objs.size (.tup [.int (i : Nat), x])) h'' s.heap.objs.size (.tup [.int (i : Nat), x]) := ⟨by show 2 ≤ sizeLine; decide, [.int i tk, u0], .cons ⟨_, rfl⟩ (.cons ru .nil), ⟨_, hT2, rfl, _, rfl⟩⟩
    have I1 : Inv X pins σ (upd H s.heap.objs.size (.tup [.int (i : Nat), x])) { s with heap := h'', toks := tk + 1 } := I.turnedNew (ch := [e, it]) (fun b ob hb q => (sb.2 b (fun z => hb (by simp [z]))).trans (hk b ob (fun z => hb (by simp [z])) (fun z => hb (by simp [z])) q)) hf (Nat.le_refl _) new
    refine ⟨.ref s.heap.objs.size, _, I1, rfl, ⟨_, x, rfl, I.hok.fresh (Nat.le_refl _), rfl, fun ys hy => ?_⟩, ⟨⟨u0, ?_⟩, hit'.at fun o q => (sb.2 it (Ne.symm hne)).trans q, hne⟩, fun b hb => ?_⟩
    · rw [I.tuple_inj hy hq]; exact hx
    · have e1 : ((i + 1 : Nat) : Int) = (i : Int) + 1 := by omega
      rw [e1]; exact he'
    · have hb' : b < s.heap.objs.size := by
        rcases (by simpa using hb : b = e ∨ b = it) with z | z
        · rw [z]; exact hel
        · rw [z]; exact hil
      rw [upd_ne (Nat.ne_of_lt hb')]
      exact (hf b hb).1
  done := by
    intro X hP hw hK hc i pins s σ H E I hf st hg
    subst hP hw hK
    obtain ⟨⟨old, he⟩, hit, hne⟩ := st
    obtain ⟨xs, hq, hx⟩ := hg
    obtain ⟨its, rv, p, hz⟩ := I.tuple hq
    obtain ⟨f0, f1, f2, f3, f4, f5⟩ := hf it (by simp)
    have hl := rv.length
    obtain ⟨oT, hoT, hcT, _⟩ := id p
    have hai : a ≠ it := fun z => by
      obtain ⟨o, ho, hcc, _⟩ := hit
      rw [← z, hoT] at ho
      cases ho
      rw [hcT] at hcc
      exact absurd hcc (by decide)
    have Dw : Draws X.prog X.w X.A.in1 it [it, a] i (fun i v => its.toArray[i]? = some v) (fun k h => k = i ∧ h.IsTupleIter it a k ∧ h.IsTuple a its.toArray) := {
      live := fun _ _ z => by obtain ⟨o, ho, _⟩ := z.2.1; exact ⟨o, ho⟩
      frame := fun _ _ _ z hk => ⟨z.1, z.2.1.at fun o q => hk it (by simp) o q, z.2.2.at fun o q => hk a (by simp) o q⟩
      item := fun j s Q E hj z hQ => absurd hj (by rw [z.1]; exact Nat.lt_irrefl _)
      done := fun s Q E z hE => wpAny_nextOf_tuple_end (I.ok.hd hc) z.2.1 z.2.2 (by simp; omega) hE }
    exact wpAny_pyNext_enum_endD Dw he ⟨rfl, hit, p⟩ fun h' eb => ⟨rfl, I.turned (t' := s.toks) (fun b o hb q => eb b o hb q) f0 f1 f3 f4 f5⟩
  self := fun A i s Q E st h => by
    obtain ⟨⟨_, he⟩, _⟩ := st
    exact wpAny_pyIter_enum he h
def iEnumT (K : PySem.W.Frag) (ta : TA) : TI := fun σ H R => ta σ H fun vs H1 => ∃ a xs, vs = [.ref a] ∧ SqT K H1 a xs ∧ R (Itu K a) H1
theorem pi_enumT {X : Cx} {e : Expr} {ta : TA} {p pos tpos : Pos} {elts : List Expr} {kk : Nat} (hg : Gl X "enumerate") (hm : X.mg "enumerate" = none) (ha : PA X [e] ta) (hs : starEach [e] X.env = [(false, eval e X.env)] := by rfl) :
    PI X (.Tuple elts kk tpos) (.Call (.Name "enumerate" p) [e] [] pos) (iEnumT X.K ta) := by
  constructor
  intro pins s σ H R I h
  refine Call_ (ld_blt I hg hm boot_enumerate (PyProof.Rows.callWith_type1 (thn (ha.run pos pins s σ H _ I h) fun us s1 ⟨vs, H1, I1, r1, a, xs, ex, hq, q⟩ => ?_) hs rfl))
  subst ex
  cases r1 with
  | cons r rr =>
    cases rr
    cases r
    obtain ⟨its, rv, pt, _⟩ := I1.tuple hq
    refine callEnumT (show s1.heap.IsTuple a its.toArray from pt) fun h' he hit hk => wpAny_pyIter_enum he ?_
    refine ⟨s1.heap.objs.size + 1, [s1.heap.objs.size + 1, s1.heap.objs.size], _, _, H1, rfl, I1.kept (t' := s1.toks) hk, turn_enumT a _ s1.heap.objs.size, ⟨⟨.none, he⟩, hit, Nat.succ_ne_self _⟩, fun b hb => ?_, q⟩
    have hle : s1.heap.objs.size ≤ b := by
      rcases (by simpa using hb : b = s1.heap.objs.size + 1 ∨ b = s1.heap.objs.size) with z | z
      · rw [z]; exact Nat.le_succ _
      · exact Nat.le_of_eq z.symm
    exact (I1.kept (t' := s1.toks) hk : Inv X pins σ H1 { s1 with heap := h' }) |> fun _ => I1.fpOk hle (I1.hok.fresh hle)
theorem or_pi {X : Cx} {tg e : Expr} {t u : TI} (a : PI X tg e t) (b : PI X tg e u) : PI X tg e (fun σ H Q => t σ H Q ∨ u σ H Q) := ⟨fun pins s σ H Q I h => h.elim (a.run pins s σ H Q I) (b.run pins s σ H Q I)⟩
end DS
namespace DS
open PySem PySem.Spec PyProof.Rows L2
mutual
def pyD : D → Option PyData
  | .non => some .none
  | .bl b => some (.bool b)
  | .int i => some (.int i)
  | .str s => some (.str s)
  | .tup xs => (pyDs xs).map .tuple
  | .lst xs => (pyDs xs).map .list
  | .scr xs => (pyDs xs).map .list
  | _ => none
def pyDs : List D → Option (List PyData)
  | [] => some []
  | x :: xs => match pyD x, pyDs xs with
    | some a, some as => some (a :: as)
    | _, _ => none
end
def pyH (st : Sto) : D → Option PyData
  | .hnd i => match cellAt st i with
    | some xs => (pyDs xs).map .list
    | none => none
  | d => pyD d
theorem dpAll_of {K : PySem.W.Frag} {H : Hp} : ∀ {vs : List V} {ds : List D} {ps : List PyData}, vs.length = ds.length → (∀ (i : Nat) v d, vs[i]? = some v → ds[i]? = some d → ∀ p, pyD d = some p → Dp K H v p) → pyDs ds = some ps → DpAll K H vs ps
  | [], [], ps, _, _, e => by cases (show some [] = some ps from e); exact .nil
  | [], _ :: _, _, h, _, _ => by cases h
  | _ :: _, [], _, h, _, _ => by cases h
  | v :: vs, d :: ds, ps, h, k, e => by
    have e : (match pyD d, pyDs ds with
      | some a, some as => some (a :: as)
      | _, _ => none) = some ps := e
    cases q1 : pyD d with
    | none => rw [q1] at e; cases e
    | some a =>
      cases q2 : pyDs ds with
      | none => rw [q1, q2] at e; cases e
      | some as =>
        rw [q1, q2] at e
        cases e
        exact .cons (k 0 v d rfl rfl a q1) (dpAll_of (by simpa using h) (fun i x y a b => k (i + 1) x y (by simpa using a) (by simpa using b)) q2)
theorem py_rep {G : Md} {w : Wd} {st : Sto} {v : V} {d : D} {p : PyData} (rel : Rel G w st) (h : Rep G w.I w.ph v d) (e : pyD d = some p) : Dp G.K w.H v p := by
  induction h generalizing p with
  | non => cases (show some PyData.none = some p from e); exact .non
  | bl b => cases (show some (PyData.bool b) = some p from e); exact .bl b
  | int i => cases (show some (PyData.int i) = some p from e); exact .int i
  | str s => cases (show some (PyData.str s) = some p from e); exact .str s
  | ty n => cases e
  | glo h => cases e
  | hnd h => cases e
  | tup h1 h2 h3 ih =>
    rename_i ds
    have e : (pyDs ds).map PyData.tuple = some p := e
    cases q : pyDs ds with
    | none => rw [q] at e; cases e
    | some as =>
      rw [q] at e
      cases (show some (PyData.tuple as) = some p from e)
      exact .tup (Evl.ex_t rel.sub h1) (dpAll_of h2 (fun i v d a b p hp => ih i v d a b hp) q)
  | lst h1 h2 h3 ih =>
    rename_i ds
    have e : (pyDs ds).map PyData.list = some p := e
    cases q : pyDs ds with
    | none => rw [q] at e; cases e
    | some as =>
      rw [q] at e
      cases (show some (PyData.list as) = some p from e)
      exact .lst (SqL.of (rel.sub _ _ h1)) (dpAll_of h2 (fun i v d a b p hp => ih i v d a b hp) q)
  | scr h1 h2 h3 ih =>
    rename_i ds
    have e : (pyDs ds).map PyData.list = some p := e
    cases q : pyDs ds with
    | none => rw [q] at e; cases e
    | some as =>
      rw [q] at e
      cases (show some (PyData.list as) = some p from e)
      exact .lst (Evl.ex_l rel.sub h1) (dpAll_of h2 (fun i v d a b p hp => ih i v d a b hp) q)
  | dic h1 h2 h3 h4 ih => cases e
  | obj h1 h2 h3 h4 h5 h6 ih => cases e
  | lam h1 => cases e
theorem pyH_rep {G : Md} {w : Wd} {st : Sto} {v : V} {d : D} {p : PyData} (rel : Rel G w st) (h : Rep G w.I w.ph v d) (e : pyH st d = some p) : Dp G.K w.H v p := by
  cases d with
  | hnd i =>
    have e : (match cellAt st i with
      | some xs => (pyDs xs).map PyData.list
      | none => none) = some p := e
    cases q : cellAt st i with
    | none => rw [q] at e; cases e
    | some xs =>
      rw [q] at e
      have e : (pyDs xs).map PyData.list = some p := e
      obtain ⟨a, vs, rfl, _, _, e1, e2⟩ := cell_rep rel h q
      cases q2 : pyDs xs with
      | none => rw [q2] at e; cases e
      | some as =>
        rw [q2] at e
        cases (show some (PyData.list as) = some p from e)
        exact .lst (SqL.of e1) (dpAll_of e2.1 (fun i v d a b p hp => py_rep rel (e2.2 i v d a b) hp) q2)
  | _ => exact py_rep rel h e
def eqB (st : Sto) (x y : D) : Option Bool := match pyH st x, pyH st y with
  | some a, some b => if SeqAt.shaped a && SeqAt.shaped b then some (PyData.eqv a b) else none
  | _, _ => none
def eqD (st : Sto) (x y : D) : Option D := (eqB st x y).map .bl
def neD (st : Sto) (x y : D) : Option D := (eqB st x y).map fun b => .bl (!b)
theorem eqB_dp {G : Md} {w : Wd} {st : Sto} {x y : V} {dx dy : D} {b : Bool} (rel : Rel G w st) (rx : Rep G w.I w.ph x dx) (ry : Rep G w.I w.ph y dy) (e : eqB st dx dy = some b) :
    ∃ d e, Dp G.K w.H x d ∧ Dp G.K w.H y e ∧ SeqAt.shaped d = true ∧ SeqAt.shaped e = true ∧ PyData.eqv d e = b := by
  unfold eqB at e
  cases q1 : pyH st dx with
  | none => rw [q1] at e; cases e
  | some a =>
    cases q2 : pyH st dy with
    | none => rw [q1, q2] at e; cases e
    | some c =>
      rw [q1, q2] at e
      have e : (if SeqAt.shaped a && SeqAt.shaped c then some (PyData.eqv a c) else none) = some b := e
      split at e
      · rename_i hs
        rw [Bool.and_eq_true] at hs
        exact ⟨a, c, pyH_rep rel rx q1, pyH_rep rel ry q2, hs.1, hs.2, Option.some.inj e⟩
      · cases e
section
variable {G : Md}
theorem d_eq : OpD G (rEqD G.K) eqD := by
  intro w st x y dx dy d Q rel rx ry e q
  unfold eqD at e
  cases h : eqB st dx dy with
  | none => rw [h] at e; cases e
  | some b =>
    rw [h] at e
    cases (show some (D.bl b) = some d from e)
    obtain ⟨a, c, h1, h2, h3, h4, h5⟩ := eqB_dp rel rx ry h
    exact ⟨a, c, h1, h2, h3, h4, by rw [h5]; exact q w _ (Step.refl w) rel (.bl b)⟩
theorem d_ne : OpD G (rNeD G.K) neD := by
  intro w st x y dx dy d Q rel rx ry e q
  unfold neD at e
  cases h : eqB st dx dy with
  | none => rw [h] at e; cases e
  | some b =>
    rw [h] at e
    cases (show some (D.bl (!b)) = some d from e)
    obtain ⟨a, c, h1, h2, h3, h4, h5⟩ := eqB_dp rel rx ry h
    exact ⟨a, c, h1, h2, h3, h4, by rw [h5]; exact q w _ (Step.refl w) rel (.bl _)⟩
def flatD : D → Option V
  | .non => some .non
  | .bl b => some (.bl b)
  | .int i => some (.int i)
  | .str s => some (.str s)
  | _ => none
def flatDs : List D → Option (List V)
  | [] => some []
  | x :: xs => match flatD x, flatDs xs with
    | some a, some as => some (a :: as)
    | _, _ => none
theorem flat_rep {I : Hp} {ph : List Addr} {v u : V} {d : D} (h : Rep G I ph v d) (e : flatD d = some u) : v = u ∧ flatV u = true := by
  cases h with
  | non => cases e; exact ⟨rfl, rfl⟩
  | bl b => cases e; exact ⟨rfl, rfl⟩
  | int i => cases e; exact ⟨rfl, rfl⟩
  | str s => cases e; exact ⟨rfl, rfl⟩
  | _ => cases e
theorem flats_rep {I : Hp} {ph : List Addr} : ∀ {vs us : List V} {ds : List D}, Reps G I ph vs ds → flatDs ds = some us → vs = us ∧ us.all flatV = true
  | vs, us, [], h, e => by cases e; exact ⟨h.inv_nil', rfl⟩
  | vs, us, d :: ds, h, e => by
    obtain ⟨v, vs', rfl, r1, r2⟩ := h.inv_cons'
    have e : (match flatD d, flatDs ds with
      | some a, some as => some (a :: as)
      | _, _ => none) = some us := e
    cases q1 : flatD d with
    | none => rw [q1] at e; cases e
    | some a =>
      cases q2 : flatDs ds with
      | none => rw [q1, q2] at e; cases e
      | some as =>
        rw [q1, q2] at e
        cases e
        obtain ⟨rfl, h1⟩ := flat_rep r1 q1
        obtain ⟨rfl, h2⟩ := flats_rep r2 q2
        exact ⟨rfl, by rw [List.all_cons, h1, h2]; rfl⟩
def inB (st : Sto) (x y : D) : Option Bool := match flatD x, seqOf st y with
  | some a, some ys => (flatDs ys).map fun bs => inV a bs
  | _, _ => none
def inD (neg : Bool) (st : Sto) (x y : D) : Option D := (inB st x y).map fun b => .bl (if neg = true then !b else b)
theorem d_in {neg : Bool} : OpD G (rIn G.K neg) (inD neg) := by
  intro w st x y dx dy d Q rel rx ry e q
  unfold inD inB at e
  cases q1 : flatD dx with
  | none => rw [q1] at e; cases e
  | some a =>
    cases q2 : seqOf st dy with
    | none => rw [q1, q2] at e; cases e
    | some ys =>
      rw [q1, q2] at e
      cases q3 : flatDs ys with
      | none =>
        have e : ((flatDs ys).map fun bs => inV a bs).map (fun b => D.bl (if neg = true then !b else b)) = some d := e
        rw [q3] at e; cases e
      | some bs =>
        have e : ((flatDs ys).map fun bs => inV a bs).map (fun b => D.bl (if neg = true then !b else b)) = some d := e
        rw [q3] at e
        cases e
        obtain ⟨rfl, h1⟩ := flat_rep rx q1
        obtain ⟨p, vs, rfl, h2, h3⟩ := seq_rep rel ry q2
        obtain ⟨rfl, h4⟩ := flats_rep h3 q3
        exact ⟨p, vs, rfl, h2, h1, h4, q w _ (Step.refl w) rel (.bl _)⟩
def eChain (g g' : Sto → D → D → Option D) (fa fb fc : EE) : EE := fun sd st => (fa sd st).bind fun x st1 => (fb sd st1).bind fun y st2 => match g st2 x y with
  | some (.bl true) => (fc sd st2).bind fun z st3 => Res.ofO (g' st3 y z) st3
  | some (.bl false) => .ok (.bl false) st2
  | _ => .stk
theorem se_chain {E : L2.St → XK} {ta tb tc : TE} {fa fb fc : EE} {r r' : R2} {g g' : Sto → D → D → Option D} (hg : OpD G r g) (hg' : OpD G r' g') (ha : SE G E ta fa) (hb : SE G E tb fb) (hc : SE G E tc fc) : SE G E (tChain r r' ta tb tc) (eChain g g' fa fb fc) := by
  intro w sv sd st Q rel sl h
  refine ha w sv sd st _ rel sl ((Post.bind h).imp ?_)
  rintro x _ ⟨w1, dx, st1, rfl, s1, r1, rx, h1⟩
  refine hb w1 sv sd st1 _ r1 (sl.step s1) ((Post.bind (h1.step anE s1)).imp ?_)
  rintro y _ ⟨w2, dy, st2, rfl, s2, r2, ry, h2⟩
  have h2 := h2.step anE s2
  cases q : g st2 dx dy with
  | none => rw [q] at h2; exact h2.elim
  | some d =>
    rw [q] at h2
    cases d with
    | bl b =>
      refine hg w2 st2 x y dx dy _ _ r2 (Rep.step s2 rx) ry q ?_
      intro w3 v s3 r3 rv
      refine ⟨b, bl_rep rv, ?_⟩
      have h3 := Post.step anE s3 h2
      cases b with
      | true =>
        refine hc w3 sv sd st2 _ r3 (((sl.step s1).step s2).step s3) ((Post.bind h3).imp ?_)
        rintro z _ ⟨w4, dz, st4, rfl, s4, r4, rz, h4⟩
        obtain ⟨d, e, h5⟩ := ofO_post (h4.step anE s4)
        exact hg' w4 st4 y z dy dz d Q r4 ((Rep.step s3 ry).step s4) rz e h5
      | false => exact h3 w3 _ (Step.refl _) r3 (.bl false)
    | _ => exact h2.elim
def lenD : Sto → List D → Option D := fun st ds => match ds with
  | [.str s] => if s.length ≤ lineN then some (.int s.length) else none
  | [d] => (seqOf st d).map fun xs => .int xs.length
  | _ => none
theorem one_rep {I : Hp} {ph : List Addr} {vs : List V} {d : D} (h : Reps G I ph vs [d]) : ∃ v, vs = [v] ∧ Rep G I ph v d := by
  obtain ⟨v, us, rfl, a, b⟩ := h.inv_cons'
  rw [b.inv_nil']
  exact ⟨v, rfl, a⟩
theorem two_rep {I : Hp} {ph : List Addr} {vs : List V} {d e : D} (h : Reps G I ph vs [d, e]) : ∃ v u, vs = [v, u] ∧ Rep G I ph v d ∧ Rep G I ph u e := by
  obtain ⟨v, us, rfl, a, b⟩ := h.inv_cons'
  obtain ⟨u, rfl, c⟩ := one_rep b
  exact ⟨v, u, rfl, a, c⟩
def rLen (K : PySem.W.Frag) : List V → Hp → VK → Prop := fun xs H Q => ∃ x n, xs = [x] ∧ LenV K x H n ∧ Q (.int (n : Nat)) H
theorem c_len : CaD G (rLen G.K) lenD := by
  intro w st vs ds d Q rel rs e q
  have seq : ∀ d0, ds = [d0] → (seqOf st d0).map (fun xs => D.int xs.length) = some d → rLen G.K vs w.H Q := by
    intro d0 hd e2
    subst hd
    obtain ⟨v, rfl, rv⟩ := one_rep rs
    cases h : seqOf st d0 with
    | none => rw [h] at e2; cases e2
    | some xs =>
      rw [h] at e2
      cases e2
      obtain ⟨a, us, rfl, h1, h2⟩ := seq_rep rel rv h
      refine ⟨.ref a, us.length, rfl, ?_, ?_⟩
      · rcases h1 with h1 | h1
        · exact .inl ⟨us, h1, rfl⟩
        · exact .inr ⟨us, h1, rfl⟩
      · rw [h2.1]
        exact q w _ (Step.refl w) rel (.int _)
  unfold lenD at e
  split at e
  · rename_i s
    obtain ⟨v, rfl, rv⟩ := one_rep rs
    cases str_rep rv
    split at e
    · rename_i hl
      cases e
      exact ⟨_, s.length, rfl, ⟨line_ok hl, rfl⟩, q w _ (Step.refl w) rel (.int _)⟩
    · cases e
  · exact seq _ rfl e
  · cases e
theorem Reps.atI {I : Hp} {ph : List Addr} {vs : List V} {ds : List D} {i : Int} {d : D} (h : Reps G I ph vs ds) (e : L2.atI ds i = some d) : ∃ v, L2.atI vs i = some v ∧ Rep G I ph v d := by
  unfold L2.atI at e ⊢
  rw [h.1]
  cases q : ixN ds.length i with
  | none => rw [q] at e; cases e
  | some j =>
    rw [q] at e
    exact h.get (show ds[j]? = some d from e)
def ixD : Sto → D → D → Option D := fun st x y => match y with
  | .int i => (seqOf st x).bind fun xs => L2.atI xs i
  | _ => none
def rIxD (K : PySem.W.Frag) : R2 := fun x y H Q => rIxL K x y H Q ∨ rIxT K x y H Q
theorem ix_any {X : Cx} : IxR X (rIxD X.K) := by
  intro value slice pins s σ H x y v u Q I rx ry h hs
  rcases h with h | h
  · exact ix_list value slice pins s σ H x y v u Q I rx ry h hs
  · exact ix_tup value slice pins s σ H x y v u Q I rx ry h hs
theorem d_ix : OpD G (rIxD G.K) ixD := by
  intro w st x y dx dy d Q rel rx ry e q
  unfold ixD at e
  split at e
  · rename_i i
    cases h : seqOf st dx with
    | none => rw [h] at e; cases e
    | some xs =>
      rw [h] at e
      have e : L2.atI xs i = some d := e
      obtain ⟨a, us, rfl, h1, h2⟩ := seq_rep rel rx h
      obtain ⟨v, e2, rv⟩ := h2.atI e
      rw [int_rep ry]
      rcases h1 with h1 | h1
      · exact .inl ⟨a, us, i, v, rfl, rfl, h1, e2, q w v (Step.refl w) rel rv⟩
      · exact .inr ⟨a, us, i, v, rfl, rfl, h1, e2, q w v (Step.refl w) rel rv⟩
  · cases e
abbrev EO := Sl → Sto → Res (Option Int)
def RO : RR (Option Int) (Option Int) := fun _ _ x y => x = y
theorem anO : An RO := ⟨fun _ _ _ _ _ _ h => h⟩
def SO (G : Md) (E : L2.St → XK) (to : TO) (f : EO) : Prop := ∀ w sv sd st Q, Rel G w st → Slo G w sv sd → Post G RO w (f sd st) Q (E sv) → to sv w.H Q
def oNo : EO := fun _ st => .ok none st
def oAt (f : EE) : EO := fun sd st => (f sd st).bind fun x st1 => match x with
  | .int i => .ok (some i) st1
  | _ => .stk
theorem so_no {E : L2.St → XK} : SO G E tNoPart oNo := fun w sv sd st Q rel sl h => h w none (Step.refl w) rel rfl
theorem so_at {E : L2.St → XK} {te : TE} {f : EE} (he : SE G E te f) : SO G E (tPart te) (oAt f) := by
  intro w sv sd st Q rel sl h
  refine he w sv sd st _ rel sl ((Post.bind h).imp ?_)
  rintro x _ ⟨w1, dx, st1, rfl, s1, r1, rx, h1⟩
  have h1 := h1.step anO s1
  cases dx with
  | int i => exact ⟨i, int_rep rx, h1 w1 _ (Step.refl _) r1 rfl⟩
  | _ => exact h1.elim
def cutG {a : Type} (xs : List a) (lo hi : Option Int) : List a := (xs.drop (HT.sIx xs.length 0 lo)).take (HT.sIx xs.length xs.length hi - HT.sIx xs.length 0 lo)
theorem Reps.cut {I : Hp} {ph : List Addr} {vs : List V} {ds : List D} (h : Reps G I ph vs ds) (lo hi : Option Int) : Reps G I ph (cutV vs lo hi) (cutG ds lo hi) := by
  unfold cutV cutG
  rw [h.1]
  exact (h.drop _).take _
/-- xs[lo:hi], a new list -/
def fCutL (f : EE) (lo hi : EO) : EA := fun sd st => (f sd st).bind fun x st1 => (lo sd st1).bind fun l st2 => (hi sd st2).bind fun h st3 => match lstOf st3 x with
  | some xs => .ok (cutG xs l h) st3
  | none => .stk
theorem sf_cutL {E : L2.St → XK} {te : TE} {f : EE} {tl th : TO} {lo hi : EO} (he : SE G E te f) (hl : SO G E tl lo) (hh : SO G E th hi) : SF G E (tSl (rSlL G.K) te tl th) (fCutL f lo hi) := by
  intro w sv sd st Q rel sl h
  refine he w sv sd st _ rel sl ((Post.bind h).imp ?_)
  rintro x _ ⟨w1, dx, st1, rfl, s1, r1, rx, h1⟩
  refine hl w1 sv sd st1 _ r1 (sl.step s1) ((Post.bind (h1.step anF s1)).imp ?_)
  rintro l _ ⟨w2, _, st2, rfl, s2, r2, rfl, h2⟩
  refine hh w2 sv sd st2 _ r2 ((sl.step s1).step s2) ((Post.bind (h2.step anF s2)).imp ?_)
  rintro u _ ⟨w3, _, st3, rfl, s3, r3, rfl, h3⟩
  have h3 := h3.step anF s3
  have rx3 := Rep.step s3 (Rep.step s2 rx)
  cases e : lstOf st3 dx with
  | some xs =>
    rw [e] at h3
    obtain ⟨a, vs, rfl, k1, k2⟩ := lst_rep r3 rx3 e
    refine ⟨a, vs, rfl, k1, fun p hp => ?_⟩
    have k := fresh_lst r3 hp (k2.cut l u)
    exact h3 ⟨w3.I, w3.ph, upd w3.H p (.lst (cutV vs l u))⟩ _ k.1 k.2 ⟨p, _, rfl, .inl hp, r3.notIn hp, r3.noI hp, upd_same, k2.cut l u⟩
  | none =>
    rw [e] at h3
    exact h3.elim
end
end DS
namespace DS
open PySem PySem.Spec PyProof.Rows L2
section
variable {G : Md}
def absD : Sto → List D → Option D := fun _ ds => match ds with
  | [.int i] => some (.int (if i < 0 then -i else i))
  | _ => none
def rAbs : List V → Hp → VK → Prop := fun xs H Q => ∃ i, xs = [.int i] ∧ Q (.int (if i < 0 then -i else i)) H
theorem c_abs : CaD G rAbs absD := by
  intro w st vs ds d Q rel rs e q
  unfold absD at e
  split at e
  · rename_i i
    cases e
    obtain ⟨v, rfl, rv⟩ := one_rep rs
    rw [int_rep rv]
    exact ⟨i, rfl, q w _ (Step.refl w) rel (.int _)⟩
  · cases e
def intOf : Sto → List D → Option D := fun _ ds => match ds with
  | [.int i] => some (.int i)
  | [.bl b] => some (.int (if b = true then 1 else 0))
  | _ => none
def rInt1 : List V → Hp → VK → Prop := fun xs H Q => (∃ i, xs = [.int i] ∧ Q (.int i) H) ∨ ∃ k : Bool, xs = [.bl k] ∧ Q (.int (if k = true then 1 else 0)) H
theorem c_int : CaD G rInt1 intOf := by
  intro w st vs ds d Q rel rs e q
  unfold intOf at e
  split at e
  · rename_i i
    cases e
    obtain ⟨v, rfl, rv⟩ := one_rep rs
    rw [int_rep rv]
    exact .inl ⟨i, rfl, q w _ (Step.refl w) rel (.int _)⟩
  · rename_i b
    cases e
    obtain ⟨v, rfl, rv⟩ := one_rep rs
    rw [bl_rep rv]
    exact .inr ⟨b, rfl, q w _ (Step.refl w) rel (.int _)⟩
  · cases e
def max2D : Sto → List D → Option D := fun _ ds => match ds with
  | [.int i, .int j] => some (.int (if j > i then j else i))
  | _ => none
def min2D : Sto → List D → Option D := fun _ ds => match ds with
  | [.int i, .int j] => some (.int (if j < i then j else i))
  | _ => none
def rMax2 : List V → Hp → VK → Prop := fun xs H Q => ∃ i j, xs = [.int i, .int j] ∧ Q (.int (if j > i then j else i)) H
def rMin2 : List V → Hp → VK → Prop := fun xs H Q => ∃ i j, xs = [.int i, .int j] ∧ Q (.int (if j < i then j else i)) H
theorem c_max2 : CaD G rMax2 max2D := by
  intro w st vs ds d Q rel rs e q
  unfold max2D at e
  split at e
  · rename_i i j
    cases e
    obtain ⟨v, u, rfl, rv, ru⟩ := two_rep rs
    rw [int_rep rv, int_rep ru]
    exact ⟨i, j, rfl, q w _ (Step.refl w) rel (.int _)⟩
  · cases e
theorem c_min2 : CaD G rMin2 min2D := by
  intro w st vs ds d Q rel rs e q
  unfold min2D at e
  split at e
  · rename_i i j
    cases e
    obtain ⟨v, u, rfl, rv, ru⟩ := two_rep rs
    rw [int_rep rv, int_rep ru]
    exact ⟨i, j, rfl, q w _ (Step.refl w) rel (.int _)⟩
  · cases e
def blsOf : List D → Option (List Bool)
  | [] => some []
  | .bl i :: r => (blsOf r).map (i :: ·)
  | _ => none
theorem bls_rep {I : Hp} {ph : List Addr} : ∀ {vs : List V} {ds : List D} {ns : List Bool}, Reps G I ph vs ds → blsOf ds = some ns → vs = ns.map V.bl
  | vs, [], ns, h, e => by cases e; exact h.inv_nil'
  | vs, d :: ds, ns, h, e => by
    obtain ⟨v, us, rfl, r1, r2⟩ := h.inv_cons'
    cases d with
    | bl i =>
      have e : (blsOf ds).map (i :: ·) = some ns := e
      cases q : blsOf ds with
      | none => rw [q] at e; cases e
      | some ms =>
        rw [q] at e
        cases e
        rw [bl_rep (w := ⟨I, ph, I⟩) r1, bls_rep r2 q]
        rfl
    | _ => cases e
def onB (g : List Bool → Option D) : Sto → List D → Option D := fun st ds => match ds with
  | [d] => (lstOf st d).bind fun xs => (blsOf xs).bind g
  | _ => none
theorem onB_of {g : List Bool → Option D} {r : List V → Hp → VK → Prop} (h : ∀ a ns d (H : Hp) (Q : VK), SqL G.K H a (ns.map V.bl) → g ns = some d → (∀ v, (∀ I ph, Rep G I ph v d) → Q v H) → r [.ref a] H Q) : CaD G r (onB g) := by
  intro w st vs ds d Q rel rs e q
  unfold onB at e
  split at e
  · rename_i d0
    cases h1 : lstOf st d0 with
    | none => rw [h1] at e; cases e
    | some xs =>
      rw [h1] at e
      have e : (blsOf xs).bind g = some d := e
      cases h2 : blsOf xs with
      | none => rw [h2] at e; cases e
      | some ns =>
        rw [h2] at e
        obtain ⟨v, rfl, rv⟩ := one_rep rs
        obtain ⟨a, us, rfl, k1, k2⟩ := lst_rep rel rv h1
        rw [bls_rep k2 h2] at k1
        exact h a ns d w.H Q k1 e fun v hv => q w v (Step.refl w) rel (hv _ _)
  · cases e
theorem c_all : CaD G (rAll G.K) (onB fun bs => some (.bl (bs.all id))) := onB_of fun a ns d H Q h e q => ⟨a, ns, rfl, h, q _ fun I ph => by cases e; exact .bl _⟩
theorem c_any : CaD G (rAny G.K) (onB fun bs => some (.bl (bs.any id))) := onB_of fun a ns d H Q h e q => ⟨a, ns, rfl, h, q _ fun I ph => by cases e; exact .bl _⟩
/-- tuple(..) -/
def tupleD : Sto → List D → Option D := fun st ds => match ds with
  | [d] => (seqOf st d).map .tup
  | _ => none
def rTupOf (K : PySem.W.Frag) : List V → Hp → VK → Prop := fun xs H Q => ∃ p ys, xs = [.ref p] ∧ ((SqL K H p ys ∧ ∀ l, H l = none → Q (.ref l) (upd H l (.tup ys))) ∨ (SqT K H p ys ∧ Q (.ref p) H))
theorem c_tuple : CaD G (rTupOf G.K) tupleD := by
  intro w st vs ds d Q rel rs e q
  unfold tupleD at e
  split at e
  · rename_i d0
    obtain ⟨v, rfl, rv⟩ := one_rep rs
    cases h1 : lstOf st d0 with
    | some xs =>
      have h2 : seqOf st d0 = some xs := by
        cases d0 <;> first | exact h1 | cases h1
      rw [h2] at e
      cases e
      obtain ⟨a, us, rfl, k1, k2⟩ := lst_rep rel rv h1
      exact ⟨a, us, rfl, .inl ⟨k1, fun p hp => q (w.addI p (.tup us)) _ (step_addI rel hp) (rel.addI hp) (Rep.tup' (SqT.of upd_same) (k2.step (step_addI rel hp)))⟩⟩
    | none =>
      cases d0 with
      | tup xs =>
        cases e
        obtain ⟨a, us, rfl, k1, k2⟩ := rv.tup_inv
        exact ⟨a, us, rfl, .inr ⟨Evl.ex_t rel.sub k1, q w _ (Step.refl w) rel rv⟩⟩
      | hnd i =>
        have e : (lstOf st (.hnd i)).map D.tup = some d := e
        rw [h1] at e
        cases e
      | lst ys => cases h1
      | scr ys => cases h1
      | _ => cases e
  · cases e
/-- list(..), a new one -/
def listD : Sto → List D → Option (List D) := fun st ds => match ds with
  | [d] => seqOf st d
  | _ => none
def rLstOf (K : PySem.W.Frag) : List V → Hp → VK → Prop := fun xs H Q => ∃ p ys, xs = [.ref p] ∧ (SqL K H p ys ∨ SqT K H p ys) ∧ ∀ l, H l = none → Q (.ref l) (upd H l (.lst ys))
theorem c_list : CaF G (rLstOf G.K) listD := by
  intro w st vs ds d Q rel rs e q
  unfold listD at e
  split at e
  · rename_i d0
    obtain ⟨v, rfl, rv⟩ := one_rep rs
    obtain ⟨a, us, rfl, k1, k2⟩ := seq_rep rel rv e
    refine ⟨a, us, rfl, k1, fun p hp => ?_⟩
    have k := fresh_lst rel hp k2
    exact q ⟨w.I, w.ph, upd w.H p (.lst us)⟩ _ k.1 k.2 ⟨p, us, rfl, .inl hp, rel.notIn hp, rel.noI hp, upd_same, k2⟩
  · cases e
/-- isinstance(x, T), T a built-in class -/
def D.cls : D → Option String
  | .non => some "NoneType"
  | .bl _ => some "bool"
  | .int _ => some "int"
  | .str _ => some "str"
  | .tup _ => some "tuple"
  | .lst _ => some "list"
  | .scr _ => some "list"
  | .dic _ => some "dict"
  | _ => none
def D.clsH (st : Sto) : D → Option String
  | .hnd i => (cellAt st i).map fun _ => "list"
  | d => d.cls
def isiD : Sto → List D → Option D := fun st ds => match ds with
  | [d, .ty n] => (d.clsH st).bind fun c => (kitB c n).map .bl
  | _ => none
theorem tyx_l {H : Hp} {a : Addr} {xs : List V} (h : SqL G.K H a xs) : TyX G.K H (.ref a) (.type "list") := by
  rcases h with (h | ⟨o, h⟩) | ⟨o, _, _, h1, h2, _⟩
  · exact .base (.lst h)
  · exact .base (.frz h)
  · exact .kList h1 h2
theorem tyx_t {H : Hp} {a : Addr} {xs : List V} (h : SqT G.K H a xs) : TyX G.K H (.ref a) (.type "tuple") := by
  rcases h with (h | ⟨o, h⟩) | ⟨o, _, _, h1, h2, _⟩
  · exact .base (.tup h)
  · exact .fTuple h
  · exact .kTuple h1 h2
theorem cls_rep {w : Wd} {st : Sto} {v : V} {d : D} {c : String} (rel : Rel G w st) (h : Rep G w.I w.ph v d) (e : d.clsH st = some c) : TyX G.K w.H v (.type c) := by
  cases d with
  | non => cases e; rw [non_rep h]; exact .base .non
  | bl b => cases e; rw [bl_rep h]; exact .base (.bl b)
  | int i => cases e; rw [int_rep h]; exact .base (.int i)
  | str s => cases e; rw [str_rep h]; exact .base (.str s)
  | ty n => cases e
  | glo x => cases e
  | tup xs =>
    cases e
    obtain ⟨a, vs, rfl, h1, h2⟩ := tup_rep (xs := xs) rel h rfl
    exact tyx_t h1
  | lst xs =>
    cases e
    obtain ⟨a, vs, rfl, h1, h2⟩ := lst_rep (xs := xs) rel h rfl
    exact tyx_l h1
  | scr xs =>
    cases e
    obtain ⟨a, vs, rfl, h1, h2⟩ := lst_rep (xs := xs) rel h rfl
    exact tyx_l h1
  | hnd i =>
    have e : (cellAt st i).map (fun _ => "list") = some c := e
    cases q : cellAt st i with
    | none => rw [q] at e; cases e
    | some xs =>
      rw [q] at e
      cases e
      obtain ⟨a, vs, rfl, h1, h2⟩ := lst_rep (xs := xs) rel h q
      exact tyx_l h1
  | dic kvs =>
    cases e
    cases h with
    | dic h1 => exact .base (.dK (rel.sub _ _ h1))
  | obj c xs => cases e
  | lam j => cases e
theorem c_isi : CaD G (rIsi G.K) isiD := by
  intro w st vs ds d Q rel rs e q
  unfold isiD at e
  split at e
  · rename_i d0 n
    obtain ⟨v, u, rfl, rv, ru⟩ := two_rep rs
    cases h1 : d0.clsH st with
    | none => rw [h1] at e; cases e
    | some c =>
      rw [h1] at e
      have e : (kitB c n).map D.bl = some d := e
      cases h2 : kitB c n with
      | none => rw [h2] at e; cases e
      | some b =>
        rw [h2] at e
        cases e
        cases ru
        exact ⟨v, .ty n, _, _, b, rfl, .ty n, cls_rep rel rv h1, kit_ty h2, q w _ (Step.refl w) rel (.bl b)⟩
  · cases e
/-- {} that stays as it is -/
def eDict0 : EE := fun _ st => .ok (.dic []) st
theorem se_dict0 {E : L2.St → XK} : SE G E tDNewK eDict0 := by
  intro w sv sd st Q rel sl h p hp
  exact h (w.addI p (.dK [])) _ (step_addI rel hp) (rel.addI hp) (.dic upd_same rfl (fun i p q a => by simp at a) (fun i p q a => by simp at a))
end
end DS
namespace DS
open PySem PySem.Spec PyProof.Rows L2
section
variable {G : Md}
/-- a sequence that stays -/
def seqN : D → Option (List D)
  | .tup xs => some xs
  | .lst xs => some xs
  | .scr xs => some xs
  | _ => none
def iSeq (f : EE) : EI := fun sd st => (f sd st).bind fun d st1 => match d with
  | .hnd h => match cellAt st1 h with
    | some xs => .ok (fun st i => (cellAt st h).map fun ys => ys[i]?, xs.length) st1
    | none => .stk
  | d => match seqN d with
    | some xs => .ok (fun _ i => some xs[i]?, xs.length) st1
    | none => .stk
def tSeqI (K : PySem.W.Frag) (te : TE) : TI := fun σ H R => iList K te σ H R ∨ iTup K te σ H R
theorem pi_seqI {X : Cx} {tg e : Expr} {te : TE} (h : PE X e te) : PI X tg e (tSeqI X.K te) := or_pi (pi_list h) (pi_tup h)
/-- each turn's item is at hand, and nothing is made -/
theorem it_fix {w1 : Wd} {J : It} {it : ItD} (h : ∀ w st, Step w1 w → Rel G w st → ∀ i, (∀ d, it st i = some (some d) → J.go i w.H ∧ ∀ x H', J.yld i w.H x H' → H' = w.H ∧ Rep G w.I w.ph x d) ∧ (it st i = some none → J.stop i w.H)) : ItOk G w1 J it := by
  intro w st s rel i
  obtain ⟨a, b⟩ := h w st s rel i
  refine ⟨fun d e => ⟨(a d e).1, fun x H' y => ?_⟩, b⟩
  obtain ⟨rfl, r⟩ := (a d e).2 x H' y
  exact ⟨w, rfl, Step.refl w, rel, r⟩
theorem it_l {w1 : Wd} {a : Addr} {vs : List V} {xs : List D} (h : SqL G.K w1.I a vs) (rs : Reps G w1.I w1.ph vs xs) : ItOk G w1 (Itl G.K a) fun _ i => some xs[i]? := by
  refine it_fix fun w st s rel i => ⟨fun d e => ?_, fun e => ?_⟩
  · have e : xs[i]? = some d := Option.some.inj e
    have k := Evl.ex_l rel.sub (Evl.ex_l s.im h)
    obtain ⟨v, hv, rv⟩ := (rs.step s).get e
    exact ⟨⟨vs, v, k, hv⟩, fun x H' y => ⟨y.1, (rs.step s).2 i x d (y.2 vs k) e⟩⟩
  · have e : xs[i]? = none := Option.some.inj e
    exact ⟨vs, Evl.ex_l rel.sub (Evl.ex_l s.im h), List.getElem?_eq_none_iff.mp (rs.none e)⟩
theorem it_t {w1 : Wd} {a : Addr} {vs : List V} {xs : List D} (h : SqT G.K w1.I a vs) (rs : Reps G w1.I w1.ph vs xs) : ItOk G w1 (Itt G.K a) fun _ i => some xs[i]? := by
  refine it_fix fun w st s rel i => ⟨fun d e => ?_, fun e => ?_⟩
  · have e : xs[i]? = some d := Option.some.inj e
    have k := Evl.ex_t rel.sub (Evl.ex_t s.im h)
    obtain ⟨v, hv, rv⟩ := (rs.step s).get e
    exact ⟨⟨vs, v, k, hv⟩, fun x H' y => ⟨y.1, (rs.step s).2 i x d (y.2 vs k) e⟩⟩
  · have e : xs[i]? = none := Option.some.inj e
    exact ⟨vs, Evl.ex_t rel.sub (Evl.ex_t s.im h), List.getElem?_eq_none_iff.mp (rs.none e)⟩
theorem si_seq {E : L2.St → XK} {te : TE} {f : EE} (he : SE G E te f) : SI G E (tSeqI G.K te) (iSeq f) := by
  intro w sv sd st R rel sl h
  unfold iSeq at h
  cases q : f sd st with
  | stk => rw [q] at h; exact h.elim
  | ex c st1 =>
    rw [q] at h
    exact .inl (he w sv sd st _ rel sl (by rw [q]; exact h))
  | ok d st1 =>
    rw [q] at h
    have plain : ∀ xs, seqN d = some xs → Post G (RI G) w (Res.ok ((fun _ i => some xs[i]?, xs.length) : ItD × Nat) st1) R (E sv) → tSeqI G.K te sv w.H R := fun xs hs h => by
      cases hd : d with
      | tup ys =>
        rw [hd] at hs q
        cases hs
        refine .inr (he w sv sd st _ rel sl ?_)
        rw [q]
        intro w1 v s1 r1 rv
        obtain ⟨a, vs, rfl, k1, k2⟩ := Rep.tup_inv rv
        exact ⟨a, rfl, ⟨vs, Evl.ex_t r1.sub k1⟩, h w1 _ s1 r1 (it_t k1 k2)⟩
      | lst ys =>
        rw [hd] at hs q
        cases hs
        refine .inl (he w sv sd st _ rel sl ?_)
        rw [q]
        intro w1 v s1 r1 rv
        obtain ⟨a, vs, rfl, k1, k2⟩ := Rep.lst_inv rv
        exact ⟨a, rfl, ⟨vs, SqL.of (r1.sub _ _ k1)⟩, h w1 _ s1 r1 (it_l (SqL.of k1) k2)⟩
      | scr ys =>
        rw [hd] at hs q
        cases hs
        refine .inl (he w sv sd st _ rel sl ?_)
        rw [q]
        intro w1 v s1 r1 rv
        cases rv with
        | scr k1 k2 k3 => exact ⟨_, rfl, ⟨_, Evl.ex_l r1.sub k1⟩, h w1 _ s1 r1 (it_l k1 ⟨k2, k3⟩)⟩
      | _ => rw [hd] at hs; cases hs
    cases hd : d with
    | hnd i =>
      rw [hd] at h q
      have h : Post G (RI G) w (match cellAt st1 i with
        | some xs => Res.ok ((fun st j => (cellAt st i).map fun ys => ys[j]?, xs.length) : ItD × Nat) st1
        | none => .stk) R (E sv) := h
      cases hc : cellAt st1 i with
      | none => rw [hc] at h; exact h.elim
      | some xs =>
        rw [hc] at h
        refine .inl (he w sv sd st _ rel sl ?_)
        rw [q]
        intro w1 v s1 r1 rv
        obtain ⟨a, vs, rfl, k0, k1, k2, k3⟩ := cell_rep r1 rv hc
        refine ⟨a, rfl, ⟨vs, SqL.of k2⟩, h w1 _ s1 r1 (it_fix fun w2 st2 s2 r2 j => ⟨fun d e => ?_, fun e => ?_⟩)⟩
        · have e : (cellAt st2 i).map (fun ys => ys[j]?) = some (some d) := e
          cases hz : cellAt st2 i with
          | none => rw [hz] at e; cases e
          | some ys =>
            rw [hz] at e
            have e : ys[j]? = some d := Option.some.inj e
            obtain ⟨a2, us, e2, _, _, z2, z3⟩ := cell_rep r2 (Rep.step s2 rv) hz
            cases e2
            obtain ⟨u, hu, ru⟩ := z3.get e
            exact ⟨⟨us, u, SqL.of z2, hu⟩, fun x H' y => ⟨y.1, z3.2 j x d (y.2 us (SqL.of z2)) e⟩⟩
        · have e : (cellAt st2 i).map (fun ys => ys[j]?) = some none := e
          cases hz : cellAt st2 i with
          | none => rw [hz] at e; cases e
          | some ys =>
            rw [hz] at e
            have e : ys[j]? = none := Option.some.inj e
            obtain ⟨a2, us, e2, _, _, z2, z3⟩ := cell_rep r2 (Rep.step s2 rv) hz
            cases e2
            exact ⟨us, SqL.of z2, List.getElem?_eq_none_iff.mp (z3.none e)⟩
    | tup ys => exact plain ys (by rw [hd]; rfl) (by rw [hd] at h; exact h)
    | lst ys => exact plain ys (by rw [hd]; rfl) (by rw [hd] at h; exact h)
    | scr ys => exact plain ys (by rw [hd]; rfl) (by rw [hd] at h; exact h)
    | _ => rw [hd] at h; exact h.elim
/-- range -/
def rngD (lo c : Int) (n : Nat) : ItD := fun _ i => some (if i < n then some (.int (lo + (i : Int) * c)) else none)
theorem it_r {w1 : Wd} {lo : Int} {n : Nat} : ItOk G w1 (Itr lo n) (rngD lo 1 n) := by
  refine it_fix fun w st s rel i => ⟨fun d e => ?_, fun e => ?_⟩
  · have e : (if i < n then some (D.int (lo + (i : Int) * 1)) else none) = some d := Option.some.inj e
    split at e
    · rename_i hi
      cases e
      refine ⟨hi, fun x H' y => ⟨y.1, ?_⟩⟩
      rw [y.2, Int.mul_one]
      exact .int _
    · cases e
  · have e : (if i < n then some (D.int (lo + (i : Int) * 1)) else none) = none := Option.some.inj e
    split at e
    · cases e
    · rename_i hi
      exact Nat.le_of_not_lt hi
theorem it_c {w1 : Wd} {lo c : Int} {n : Nat} : ItOk G w1 (Itc lo c n) (rngD lo c n) := by
  refine it_fix fun w st s rel i => ⟨fun d e => ?_, fun e => ?_⟩
  · have e : (if i < n then some (D.int (lo + (i : Int) * c)) else none) = some d := Option.some.inj e
    split at e
    · rename_i hi
      cases e
      refine ⟨hi, fun x H' y => ⟨y.1, ?_⟩⟩
      rw [y.2]
      exact .int _
    · cases e
  · have e : (if i < n then some (D.int (lo + (i : Int) * c)) else none) = none := Option.some.inj e
    split at e
    · cases e
    · rename_i hi
      exact Nat.le_of_not_lt hi
def near (i : Int) : Bool := decide (-2 ^ 62 ≤ i) && decide (i < 2 ^ 62)
def rngOf : List D → Option (Int × Int × Nat)
  | [.int j] => if near j then some (0, 1, j.toNat) else none
  | [.int i, .int j] => if near i && near j then some (i, 1, (j - i).toNat) else none
  | [.int i, .int j, .int c] => if c ≠ 0 ∧ c.natAbs < 1073741824 ∧ Builtin.Range.small i j c = true then some (i, c, (Builtin.Range.rangeSize i j c).toNat) else none
  | _ => none
def iRng (f : EA) : EI := fun sd st => (f sd st).bind fun ds st1 => match rngOf ds with
  | some (lo, c, n) => .ok (rngD lo c n, n) st1
  | none => .stk
def iRngN (k : Nat) (f : EA) : EI := fun sd st => (f sd st).bind fun ds st1 => if ds.length = k then iRng (fun _ st => .ok ds st) sd st1 else .stk
theorem si_rng1 {E : L2.St → XK} {ta : TA} {f : EA} (he : SA G E ta f) : SI G E (iRng1 ta) (iRngN 1 f) := by
  intro w sv sd st R rel sl h
  refine he w sv sd st _ rel sl ((Post.bind h).imp ?_)
  rintro vs _ ⟨w1, ds, st1, rfl, s1, r1, rs, h1⟩
  have h1 := h1.step anI s1
  split at h1
  · rename_i hl
    obtain ⟨d, rfl⟩ : ∃ d, ds = [d] := by
      match ds, hl with
      | [d], _ => exact ⟨d, rfl⟩
    obtain ⟨v, rfl, rv⟩ := one_rep rs
    cases d with
    | int j =>
      have h1 : Post G (RI G) w1 (match (if near j then some ((0 : Int), (1 : Int), j.toNat) else none) with
        | some (lo, c, n) => Res.ok ((rngD lo c n, n) : ItD × Nat) st1
        | none => .stk) R (E sv) := h1
      by_cases hn : near j = true
      · rw [if_pos hn] at h1
        simp only [near, Bool.and_eq_true, decide_eq_true_eq] at hn
        rw [int_rep rv]
        exact ⟨j, rfl, hn.1, hn.2, h1 w1 _ (Step.refl _) r1 it_r⟩
      · rw [if_neg hn] at h1
        exact h1.elim
    | _ => exact h1.elim
  · exact h1.elim
theorem rsize_nn (i j c : Int) : 0 ≤ Builtin.Range.rangeSize i j c := by
  unfold Builtin.Range.rangeSize
  split
  · split
    · have := Int.ediv_nonneg (a := j - i - 1) (b := c) (by omega) (by omega)
      omega
    · omega
  · split
    · have := Int.ediv_nonneg (a := i - j - 1) (b := -c) (by omega) (by omega)
      omega
    · omega
theorem si_rng3 {E : L2.St → XK} {ta : TA} {f : EA} (he : SA G E ta f) : SI G E (iRng3 ta) (iRngN 3 f) := by
  intro w sv sd st R rel sl h
  refine he w sv sd st _ rel sl ((Post.bind h).imp ?_)
  rintro vs _ ⟨w1, ds, st1, rfl, s1, r1, rs, h1⟩
  have h1 := h1.step anI s1
  split at h1
  · rename_i hl
    obtain ⟨d, d2, d3, rfl⟩ : ∃ d d2 d3, ds = [d, d2, d3] := by
      match ds, hl with
      | [d, d2, d3], _ => exact ⟨d, d2, d3, rfl⟩
    obtain ⟨v, us, rfl, rv, rs2⟩ := rs.inv_cons'
    obtain ⟨u, t, rfl, ru, rt⟩ := two_rep rs2
    cases d with
    | int i =>
      cases d2 with
      | int j =>
        cases d3 with
        | int c =>
          have h1 : Post G (RI G) w1 (match (if c ≠ 0 ∧ c.natAbs < 1073741824 ∧ Builtin.Range.small i j c = true then some (i, c, (Builtin.Range.rangeSize i j c).toNat) else none) with
            | some (lo, c, n) => Res.ok ((rngD lo c n, n) : ItD × Nat) st1
            | none => .stk) R (E sv) := h1
          by_cases hn : c ≠ 0 ∧ c.natAbs < 1073741824 ∧ Builtin.Range.small i j c = true
          · rw [if_pos hn] at h1
            rw [int_rep rv, int_rep ru, int_rep rt]
            exact ⟨i, j, c, _, rfl, ⟨hn.1, hn.2.1, hn.2.2, (Int.toNat_of_nonneg (rsize_nn i j c)).symm⟩, h1 w1 _ (Step.refl _) r1 it_c⟩
          · rw [if_neg hn] at h1
            exact h1.elim
        | _ => exact h1.elim
      | _ => exact h1.elim
    | _ => exact h1.elim
  · exact h1.elim
/-- enumerate: a new pair at each turn -/
def enumD (g : ItD) : ItD := fun st i => (g st i).map fun o => o.map fun d => .tup [.int (i : Nat), d]
def iEnu (f : EE) : EI := fun sd st => (iSeq f sd st).bind fun p st1 => .ok (enumD p.1, p.2) st1
/-- a new tuple of what is at hand -/
theorem it_new {w1 : Wd} {J : It} {it : ItD} (h : ∀ w st, Step w1 w → Rel G w st → ∀ i, (∀ d, it st i = some (some d) → J.go i w.H ∧ ∀ x H', J.yld i w.H x H' → ∃ T vs ds, x = .ref T ∧ w.H T = none ∧ H' = upd w.H T (.tup vs) ∧ d = .tup ds ∧ Reps G w.I w.ph vs ds) ∧ (it st i = some none → J.stop i w.H)) : ItOk G w1 J it := by
  intro w st s rel i
  obtain ⟨a, b⟩ := h w st s rel i
  refine ⟨fun d e => ⟨(a d e).1, fun x H' y => ?_⟩, b⟩
  obtain ⟨T, vs, ds, rfl, hT, rfl, rfl, rs⟩ := (a d e).2 x H' y
  exact ⟨w.addI T (.tup vs), rfl, step_addI rel hT, rel.addI hT, Rep.tup' (SqT.of upd_same) (rs.step (step_addI rel hT))⟩
/-- what a sequence gives at each turn, for rules that build on it -/
def SeqAt2 (G : Md) (w1 : Wd) (v : V) (g : ItD) (F : Addr → List V → Hp → Prop) : Prop := ∃ a, v = .ref a ∧ ∀ w st, Step w1 w → Rel G w st → ∀ i, (∀ o, g st i = some o → ∃ vs, F a vs w.H ∧ match o with
  | some d => ∃ u, vs[i]? = some u ∧ Rep G w.I w.ph u d
  | none => vs.length ≤ i)
theorem seqAt_l {w1 : Wd} {a : Addr} {vs : List V} {xs : List D} (h : SqL G.K w1.I a vs) (rs : Reps G w1.I w1.ph vs xs) : SeqAt2 G w1 (.ref a) (fun _ i => some xs[i]?) (fun a vs H => SqL G.K H a vs) := by
  refine ⟨a, rfl, fun w st s rel i o e => ⟨vs, Evl.ex_l rel.sub (Evl.ex_l s.im h), ?_⟩⟩
  have e : xs[i]? = o := Option.some.inj e
  cases o with
  | some d => exact (rs.step s).get e
  | none => exact List.getElem?_eq_none_iff.mp (rs.none e)
theorem seqAt_t {w1 : Wd} {a : Addr} {vs : List V} {xs : List D} (h : SqT G.K w1.I a vs) (rs : Reps G w1.I w1.ph vs xs) : SeqAt2 G w1 (.ref a) (fun _ i => some xs[i]?) (fun a vs H => SqT G.K H a vs) := by
  refine ⟨a, rfl, fun w st s rel i o e => ⟨vs, Evl.ex_t rel.sub (Evl.ex_t s.im h), ?_⟩⟩
  have e : xs[i]? = o := Option.some.inj e
  cases o with
  | some d => exact (rs.step s).get e
  | none => exact List.getElem?_eq_none_iff.mp (rs.none e)
theorem seqAt_h {w1 : Wd} {st1 : Sto} {v : V} {i : Nat} {xs : List D} (r1 : Rel G w1 st1) (rv : Rep G w1.I w1.ph v (.hnd i)) (hc : cellAt st1 i = some xs) : SeqAt2 G w1 v (fun st j => (cellAt st i).map fun ys => ys[j]?) (fun a vs H => SqL G.K H a vs) := by
  obtain ⟨a, vs, rfl, k0, k1, k2, k3⟩ := cell_rep r1 rv hc
  refine ⟨a, rfl, fun w2 st2 s2 r2 j o e => ?_⟩
  have e : (cellAt st2 i).map (fun ys => ys[j]?) = some o := e
  cases hz : cellAt st2 i with
  | none => rw [hz] at e; cases e
  | some ys =>
    rw [hz] at e
    have e : ys[j]? = o := Option.some.inj e
    obtain ⟨a2, us, e2, _, _, z2, z3⟩ := cell_rep r2 (Rep.step s2 rv) hz
    cases e2
    refine ⟨us, SqL.of z2, ?_⟩
    cases o with
    | some d => exact z3.get e
    | none => exact List.getElem?_eq_none_iff.mp (z3.none e)
def isT : D → Bool
  | .tup _ => true
  | _ => false
/-- a sequence's turns, by its datum -/
def seqI (st1 : Sto) (d : D) : Option (ItD × Nat) := match d with
  | .hnd h => (cellAt st1 h).map fun xs => (fun st i => (cellAt st h).map fun ys => ys[i]?, xs.length)
  | d => (seqN d).map fun xs => (fun _ i => some xs[i]?, xs.length)
theorem iSeq_eq (f : EE) (sd : Sl) (st : Sto) : iSeq f sd st = (f sd st).bind fun d st1 => Res.ofO (seqI st1 d) st1 := by
  unfold iSeq
  cases f sd st with
  | ok d st1 =>
    show (match d with
      | .hnd h => _
      | d => _) = Res.ofO (seqI st1 d) st1
    cases d with
    | hnd h =>
      show (match cellAt st1 h with
        | some xs => _
        | none => _) = Res.ofO ((cellAt st1 h).map _) st1
      cases cellAt st1 h <;> rfl
    | _ => rfl
  | ex c st1 => rfl
  | stk => rfl
theorem seqI_l {w1 : Wd} {st1 : Sto} {v : V} {d : D} {p : ItD × Nat} (r1 : Rel G w1 st1) (rv : Rep G w1.I w1.ph v d) (h : seqI st1 d = some p) (ht : isT d = false) : SeqAt2 G w1 v p.1 (fun a vs H => SqL G.K H a vs) := by
  cases d with
  | hnd i =>
    have h : (cellAt st1 i).map (fun xs => ((fun st j => (cellAt st i).map fun ys => ys[j]?, xs.length) : ItD × Nat)) = some p := h
    cases hc : cellAt st1 i with
    | none => rw [hc] at h; cases h
    | some xs =>
      rw [hc] at h
      cases h
      exact seqAt_h r1 rv hc
  | tup ys => cases ht
  | lst ys =>
    cases h
    obtain ⟨a, vs, rfl, k1, k2⟩ := Rep.lst_inv rv
    exact seqAt_l (SqL.of k1) k2
  | scr ys =>
    cases h
    cases rv with
    | scr k1 k2 k3 => exact seqAt_l k1 ⟨k2, k3⟩
  | _ => cases h
theorem seqI_t {w1 : Wd} {st1 : Sto} {v : V} {d : D} {p : ItD × Nat} (rv : Rep G w1.I w1.ph v d) (h : seqI st1 d = some p) (ht : isT d = true) : SeqAt2 G w1 v p.1 (fun a vs H => SqT G.K H a vs) := by
  cases d with
  | tup ys =>
    cases h
    obtain ⟨a, vs, rfl, k1, k2⟩ := Rep.tup_inv rv
    exact seqAt_t k1 k2
  | _ => cases ht
theorem it_enu {w1 : Wd} {v : V} {g : ItD} {F : Addr → List V → Hp → Prop} {J : Addr → It} (h : SeqAt2 G w1 v g F)
    (hgo : ∀ a vs H i u, F a vs H → vs[i]? = some u → (J a).go i H) (hy : ∀ a vs H i x H', F a vs H → (J a).yld i H x H' → ∃ T u, x = .ref T ∧ H T = none ∧ H' = upd H T (.tup [.int (i : Nat), u]) ∧ vs[i]? = some u) (hst : ∀ a vs H i, F a vs H → vs.length ≤ i → (J a).stop i H) : ∃ a, v = .ref a ∧ ItOk G w1 (J a) (enumD g) := by
  obtain ⟨a, rfl, k⟩ := h
  refine ⟨a, rfl, it_new fun w st s rel i => ⟨fun d e => ?_, fun e => ?_⟩⟩
  · have e : (g st i).map (fun o => o.map fun d => D.tup [.int (i : Nat), d]) = some (some d) := e
    cases q : g st i with
    | none => rw [q] at e; cases e
    | some o =>
      rw [q] at e
      cases o with
      | none => cases e
      | some d0 =>
        have e : D.tup [.int (i : Nat), d0] = d := Option.some.inj (Option.some.inj e)
        obtain ⟨vs, h1, u, h2, h3⟩ := k w st s rel i _ q
        refine ⟨hgo a vs w.H i u h1 h2, fun x H' y => ?_⟩
        obtain ⟨T, u2, e1, e2, e3, e4⟩ := hy a vs w.H i x H' h1 y
        rw [h2] at e4
        cases e4
        exact ⟨T, _, _, e1, e2, e3, e.symm, Reps.cons (.int _) (Reps.cons h3 Reps.nil)⟩
  · have e : (g st i).map (fun o => o.map fun d => D.tup [.int (i : Nat), d]) = some none := e
    cases q : g st i with
    | none => rw [q] at e; cases e
    | some o =>
      rw [q] at e
      cases o with
      | some d0 => cases e
      | none =>
        obtain ⟨vs, h1, h2⟩ := k w st s rel i _ q
        exact hst a vs w.H i h1 h2
def tEnuI (K : PySem.W.Frag) (te : TE) : TI := fun σ H R => iEnum K (tCons te tNil) σ H R ∨ iEnumT K (tCons te tNil) σ H R
theorem si_enu {E : L2.St → XK} {te : TE} {f : EE} (he : SE G E te f) : SI G E (tEnuI G.K te) (iEnu f) := by
  intro w sv sd st R rel sl h
  unfold iEnu at h
  rw [iSeq_eq] at h
  cases q : f sd st with
  | stk => rw [q] at h; exact h.elim
  | ex c st1 =>
    rw [q] at h
    exact .inl (he w sv sd st _ rel sl (by rw [q]; exact h))
  | ok d st1 =>
    rw [q] at h
    have h : Post G (RI G) w ((Res.ofO (seqI st1 d) st1).bind fun p st1 => Res.ok ((enumD p.1, p.2) : ItD × Nat) st1) R (E sv) := h
    cases hp : seqI st1 d with
    | none => rw [hp] at h; exact h.elim
    | some p =>
      rw [hp] at h
      have h : Post G (RI G) w (Res.ok ((enumD p.1, p.2) : ItD × Nat) st1) R (E sv) := h
      cases ht : isT d with
      | true =>
        refine .inr (he w sv sd st _ rel sl ?_)
        rw [q]
        intro w1 v s1 r1 rv
        obtain ⟨a, rfl, k⟩ := it_enu (J := Itu G.K) (seqI_t rv hp ht) (fun a vs H i u h1 h2 => ⟨vs, u, h1, h2⟩) (fun a vs H i x H' h1 y => by
          obtain ⟨T, u, e1, e2, e3, e4⟩ := y
          exact ⟨T, u, e1, e2, e3, e4 vs h1⟩) (fun a vs H i h1 h2 => ⟨vs, h1, h2⟩)
        have hz : ∃ vs, SqT G.K w1.H a vs := by
          cases d with
          | tup ys =>
            obtain ⟨b, vs, e, k1, _⟩ := Rep.tup_inv rv
            cases e
            exact ⟨vs, Evl.ex_t r1.sub k1⟩
          | _ => cases ht
        obtain ⟨vs, hz⟩ := hz
        exact ⟨a, vs, rfl, hz, h w1 _ s1 r1 k⟩
      | false =>
        refine .inl (he w sv sd st _ rel sl ?_)
        rw [q]
        intro w1 v s1 r1 rv
        obtain ⟨a, rfl, k⟩ := it_enu (J := Ite G.K) (seqI_l r1 rv hp ht) (fun a vs H i u h1 h2 => ⟨vs, u, h1, h2⟩) (fun a vs H i x H' h1 y => by
          obtain ⟨T, u, e1, e2, e3, e4⟩ := y
          exact ⟨T, u, e1, e2, e3, e4 vs h1⟩) (fun a vs H i h1 h2 => ⟨vs, h1, h2⟩)
        have hz : ∃ vs, SqL G.K w1.H a vs := by
          cases d with
          | tup ys => cases ht
          | lst ys =>
            obtain ⟨b, vs, e, k1, _⟩ := lst_rep (xs := ys) r1 rv rfl
            cases e
            exact ⟨vs, k1⟩
          | scr ys =>
            obtain ⟨b, vs, e, k1, _⟩ := lst_rep (xs := ys) r1 rv rfl
            cases e
            exact ⟨vs, k1⟩
          | hnd i =>
            cases hc : cellAt st1 i with
            | none =>
              have hp : (cellAt st1 i).map _ = some p := hp
              rw [hc] at hp
              cases hp
            | some xs =>
              obtain ⟨b, vs, e, k1, _⟩ := lst_rep (xs := xs) r1 rv hc
              cases e
              exact ⟨vs, k1⟩
          | _ => cases hp
        obtain ⟨vs, hz⟩ := hz
        exact ⟨a, vs, rfl, hz, h w1 _ s1 r1 k⟩
/-- zip of two sequences that stay, both lists or both tuples -/
def zipD (xs ys : List D) : ItD := fun _ i => some (match xs[i]?, ys[i]? with
  | some x, some y => some (.tup [x, y])
  | _, _ => none)
def iZip2 (f : EA) : EI := fun sd st => (f sd st).bind fun ds st1 => match ds with
  | [a, b] => if isT a = isT b then match seqN a, seqN b with
    | some xs, some ys => .ok (zipD xs ys, xs.length) st1
    | _, _ => .stk
    else .stk
  | _ => .stk
theorem it_zip {w1 : Wd} {J : It} {F : Addr → List V → Hp → Prop} {a b : Addr} {vs us : List V} {xs ys : List D} (hF : ∀ w, Step w1 w → Evl.Ex w.I w.H → F a vs w.H ∧ F b us w.H) (rx : Reps G w1.I w1.ph vs xs) (ry : Reps G w1.I w1.ph us ys)
    (hgo : ∀ H i x y, F a vs H → F b us H → vs[i]? = some x → us[i]? = some y → J.go i H) (hy : ∀ H i v H', F a vs H → F b us H → J.yld i H v H' → ∃ T x y, v = .ref T ∧ H T = none ∧ H' = upd H T (.tup [x, y]) ∧ vs[i]? = some x ∧ us[i]? = some y)
    (hst : ∀ H i, F a vs H → F b us H → (vs.length ≤ i ∨ us.length ≤ i) → J.stop i H) : ItOk G w1 J (zipD xs ys) := by
  refine it_new fun w st s rel i => ?_
  obtain ⟨f1, f2⟩ := hF w s rel.sub
  have rx := rx.step s
  have ry := ry.step s
  refine ⟨fun d e => ?_, fun e => ?_⟩
  · have e : (match xs[i]?, ys[i]? with
      | some x, some y => some (D.tup [x, y])
      | _, _ => none) = some d := Option.some.inj e
    cases q1 : xs[i]? with
    | none => rw [q1] at e; cases e
    | some x =>
      cases q2 : ys[i]? with
      | none => rw [q1, q2] at e; cases e
      | some y =>
        rw [q1, q2] at e
        cases e
        obtain ⟨v, hv, rv⟩ := rx.get q1
        obtain ⟨u, hu, ru⟩ := ry.get q2
        refine ⟨hgo _ i v u f1 f2 hv hu, fun z H' yy => ?_⟩
        obtain ⟨T, v2, u2, e1, e2, e3, e4, e5⟩ := hy _ i z H' f1 f2 yy
        rw [hv] at e4
        rw [hu] at e5
        cases e4
        cases e5
        exact ⟨T, _, _, e1, e2, e3, rfl, Reps.cons rv (Reps.cons ru Reps.nil)⟩
  · have e : (match xs[i]?, ys[i]? with
      | some x, some y => some (D.tup [x, y])
      | _, _ => none) = none := Option.some.inj e
    refine hst _ i f1 f2 ?_
    cases q1 : xs[i]? with
    | none => exact .inl (List.getElem?_eq_none_iff.mp (rx.none q1))
    | some x =>
      cases q2 : ys[i]? with
      | none => exact .inr (List.getElem?_eq_none_iff.mp (ry.none q2))
      | some y => rw [q1, q2] at e; cases e
theorem si_zip {E : L2.St → XK} {ta : TA} {f : EA} (he : SA G E ta f) : SI G E (RZ.iZipA G.K ta) (iZip2 f) := by
  intro w sv sd st R rel sl h
  refine he w sv sd st _ rel sl ((Post.bind h).imp ?_)
  rintro vs _ ⟨w1, ds, st1, rfl, s1, r1, rs, h1⟩
  have h1 := h1.step anI s1
  match ds, rs, h1 with
  | [da, db], rs, h1 =>
    have h1 : Post G (RI G) w1 (if isT da = isT db then match seqN da, seqN db with
      | some xs, some ys => Res.ok ((zipD xs ys, xs.length) : ItD × Nat) st1
      | _, _ => .stk
      else .stk) R (E sv) := h1
    by_cases ht : isT da = isT db
    · rw [if_pos ht] at h1
      cases q1 : seqN da with
      | none => rw [q1] at h1; exact h1.elim
      | some xs =>
        cases q2 : seqN db with
        | none => rw [q1, q2] at h1; exact h1.elim
        | some ys =>
          rw [q1, q2] at h1
          have h1 : Post G (RI G) w1 (Res.ok ((zipD xs ys, xs.length) : ItD × Nat) st1) R (E sv) := h1
          obtain ⟨va, vb, rfl, ra, rb⟩ := two_rep rs
          cases hA : isT da with
          | true =>
            rw [hA] at ht
            cases da with
            | tup xs' =>
              cases db with
              | tup ys' =>
                cases q1
                cases q2
                obtain ⟨a, vs, rfl, k1, k2⟩ := Rep.tup_inv ra
                obtain ⟨b, us, rfl, l1, l2⟩ := Rep.tup_inv rb
                refine ⟨a, b, vs, us, rfl, .inr ⟨Evl.ex_t r1.sub k1, Evl.ex_t r1.sub l1, h1 w1 _ (Step.refl _) r1 (it_zip (F := fun a vs H => SqT G.K H a vs) (fun w s e => ⟨Evl.ex_t e (Evl.ex_t s.im k1), Evl.ex_t e (Evl.ex_t s.im l1)⟩) k2 l2 (fun H i x y f1 f2 a1 a2 => ?_) (fun H i v H' f1 f2 yy => ?_) (fun H i f1 f2 hh => ?_))⟩⟩
                · exact ⟨vs, us, x, y, f1, f2, a1, a2⟩
                · obtain ⟨T, x, y, e1, e2, e3, e4, e5⟩ := yy
                  exact ⟨T, x, y, e1, e2, e3, e4 vs f1, e5 us f2⟩
                · exact ⟨vs, us, f1, f2, hh⟩
              | _ => cases ht
            | _ => cases hA
          | false =>
            rw [hA] at ht
            have ka : ∃ a vs, va = .ref a ∧ SqL G.K w1.I a vs ∧ Reps G w1.I w1.ph vs xs := by
              cases da with
              | tup zs => cases hA
              | lst zs => cases q1; obtain ⟨a, vs, e, k1, k2⟩ := Rep.lst_inv ra; exact ⟨a, vs, e, SqL.of k1, k2⟩
              | scr zs =>
                cases q1
                cases ra with
                | scr k1 k2 k3 => exact ⟨_, _, rfl, k1, k2, k3⟩
              | _ => cases q1
            have kb : ∃ a vs, vb = .ref a ∧ SqL G.K w1.I a vs ∧ Reps G w1.I w1.ph vs ys := by
              cases db with
              | tup zs => cases ht
              | lst zs => cases q2; obtain ⟨a, vs, e, k1, k2⟩ := Rep.lst_inv rb; exact ⟨a, vs, e, SqL.of k1, k2⟩
              | scr zs =>
                cases q2
                cases rb with
                | scr k1 k2 k3 => exact ⟨_, _, rfl, k1, k2, k3⟩
              | _ => cases q2
            obtain ⟨a, vs, rfl, k1, k2⟩ := ka
            obtain ⟨b, us, rfl, l1, l2⟩ := kb
            refine ⟨a, b, vs, us, rfl, .inl ⟨Evl.ex_l r1.sub k1, Evl.ex_l r1.sub l1, h1 w1 _ (Step.refl _) r1 (it_zip (F := fun a vs H => SqL G.K H a vs) (fun w s e => ⟨Evl.ex_l e (Evl.ex_l s.im k1), Evl.ex_l e (Evl.ex_l s.im l1)⟩) k2 l2 (fun H i x y f1 f2 a1 a2 => ?_) (fun H i v H' f1 f2 yy => ?_) (fun H i f1 f2 hh => ?_))⟩⟩
            · exact ⟨vs, us, x, y, f1, f2, a1, a2⟩
            · obtain ⟨T, x, y, e1, e2, e3, e4, e5⟩ := yy
              exact ⟨T, x, y, e1, e2, e3, e4 vs f1, e5 us f2⟩
            · exact ⟨vs, us, f1, f2, hh⟩
    · rw [if_neg ht] at h1
      exact h1.elim
  | [], rs, h1 => exact h1.elim
  | [_], rs, h1 => exact h1.elim
  | _ :: _ :: _ :: _, rs, h1 => exact h1.elim
end
end DS
namespace DS
open PySem PySem.Spec PyProof.Rows L2
section
variable {G : Md}
def cellOf (st : Sto) : D → Option (Nat × List D)
  | .hnd i => (cellAt st i).map fun xs => (i, xs)
  | _ => none
theorem cellOf_rep {w : Wd} {st : Sto} {v : V} {d : D} {i : Nat} {xs : List D} (rel : Rel G w st) (h : Rep G w.I w.ph v d) (e : cellOf st d = some (i, xs)) :
    d = .hnd i ∧ ∃ a vs, v = .ref a ∧ w.ph[i]? = some a ∧ w.I a = none ∧ w.H a = some (.lst vs) ∧ Reps G w.I w.ph vs xs := by
  cases d with
  | hnd j =>
    have e : (cellAt st j).map (fun xs => (j, xs)) = some (i, xs) := e
    cases q : cellAt st j with
    | none => rw [q] at e; cases e
    | some ys =>
      rw [q] at e
      cases e
      exact ⟨rfl, cell_rep rel h q⟩
  | _ => cases e
theorem Rel.put2 {w : Wd} {st : Sto} {i : Nat} {a : Addr} {vs : List V} {xs : List D} (rel : Rel G w st) (hi : w.ph[i]? = some a) (hI : w.I a = none) (hL : ∃ us, w.H a = some (.lst us)) (rs : Reps G w.I w.ph vs xs) : Step w (w.put a vs) ∧ Rel G (w.put a vs) (st.set i (.lst xs)) := ⟨step_put (List.mem_of_getElem? hi), rel.put hi hI hL rs⟩
def ePop (fo : EE) : EE := fun sd st => (fo sd st).bind fun o st1 => match cellOf st1 o with
  | some (i, xs) => match xs[xs.length - 1]? with
    | some y => .ok y (st1.set i (.lst xs.dropLast))
    | none => .stk
  | none => .stk
theorem se_pop {E : L2.St → XK} {to : TE} {fo : EE} (ho : SE G E to fo) : SE G E (tBM0 G.K "list" rPop to) (ePop fo) := by
  intro w sv sd st Q rel sl h
  refine ho w sv sd st _ rel sl ((Post.bind h).imp ?_)
  rintro o _ ⟨w1, d0, st1, rfl, s1, r1, ro, h0⟩
  have h1 := h0.step anE s1
  clear h0
  cases q : cellOf st1 d0 with
  | none => rw [q] at h1; exact h1.elim
  | some p =>
    rw [q] at h1
    obtain ⟨i, xs⟩ := p
    obtain ⟨rfl, a, vs, rfl, k1, k2, k3, k4⟩ := cellOf_rep r1 ro q
    replace h1 : Post G (RE G) w1 (match xs[xs.length - 1]? with
      | some y => .ok y (st1.set i (.lst xs.dropLast))
      | none => .stk) Q (E sv) := h1
    cases e : xs[xs.length - 1]? with
    | none => rw [e] at h1; exact h1.elim
    | some y =>
      rw [e] at h1
      obtain ⟨v, hv, rv⟩ := k4.get e
      have rs : Reps G w1.I w1.ph vs.dropLast xs.dropLast := by
        rw [List.dropLast_eq_take, List.dropLast_eq_take, k4.1]
        exact k4.take _
      obtain ⟨s3, r3⟩ := r1.put2 k1 k2 ⟨_, k3⟩ rs
      exact ⟨.inl ⟨rfl, vs, SqL.of k3⟩, a, vs, v, rfl, rfl, k3, by rw [k4.1]; exact hv, h1 _ _ s3 r3 (Rep.step s3 rv)⟩
/-- xs[i] = e -/
def sPut (fe fo fi : EE) : SS := fun sd st => (fe sd st).toS sd fun y st1 => (fo sd st1).toS sd fun o st2 => (fi sd st2).toS sd fun k st3 => match cellOf st3 o, k with
  | some (h, xs), .int k => match ixN xs.length k with
    | some j => .go .nx sd (st3.set h (.lst (xs.set j y)))
    | none => .stk
  | _, _ => .stk
theorem sd_put {W : WX} {te to ti : TE} {fe fo fi : EE} (he : SE G (EW W) te fe) (ho : SE G (EW W) to fo) (hi : SE G (EW W) ti fi) : SD G W (tAsg te (gSub to ti rSetL)) (sPut fe fo fi) := by
  intro w sv sd st Dn rel sl q
  refine he w sv sd st _ rel sl ((PostS.ofE sl q).imp ?_)
  rintro y _ ⟨w1, dy, st1, rfl, s1, r1, ry, h1⟩
  refine ho w1 sv sd st1 _ r1 (sl.step s1) ((PostS.ofE (sl.step s1) (h1.step s1)).imp ?_)
  rintro o _ ⟨w2, d0, st2, rfl, s2, r2, ro, h2⟩
  refine hi w2 sv sd st2 _ r2 ((sl.step s1).step s2) ((PostS.ofE ((sl.step s1).step s2) (h2.step s2)).imp ?_)
  rintro k _ ⟨w3, dk, st3, rfl, s3, r3, rk, h0⟩
  have h3 := h0.step s3
  clear h0
  cases e : cellOf st3 d0 with
  | none => rw [e] at h3; exact h3.elim
  | some p =>
    rw [e] at h3
    obtain ⟨i, xs⟩ := p
    cases dk with
    | int k0 =>
      replace h3 : PostS G w3 (match ixN xs.length k0 with
        | some j => .go .nx sd (st3.set i (.lst (xs.set j dy)))
        | none => .stk) Dn W := h3
      cases e2 : ixN xs.length k0 with
      | none => rw [e2] at h3; exact h3.elim
      | some j =>
        rw [e2] at h3
        obtain ⟨rfl, a, vs, rfl, k1, k2, k3, k4⟩ := cellOf_rep r3 (Rep.step s3 ro) e
        rw [int_rep rk]
        obtain ⟨s4, r4⟩ := r3.put2 k1 k2 ⟨_, k3⟩ (k4.set j (Rep.step s3 (Rep.step s2 ry)))
        exact ⟨a, vs, k0, j, rfl, rfl, k3, by rw [k4.1]; exact e2, h3 _ sv s4 r4 ((((sl.step s1).step s2).step s3).step s4)⟩
    | _ => exact h3.elim
/-- a new list that may change -/
def eHnd (f : EA) : EE := fun sd st => (f sd st).bind fun xs st1 => .ok (.hnd st1.length) (st1 ++ [.lst xs])
theorem se_hnd {E : L2.St → XK} {te : TE} {f : EA} (hf : SF G E te f) : SE G E te (eHnd f) := by
  intro w sv sd st Q rel sl h
  refine hf w sv sd st _ rel sl ((Post.bind h).imp ?_)
  rintro v _ ⟨w1, xs, st1, rfl, s1, r1, ⟨p, vs, rfl, p0, p1, p2, p3, p4⟩, h1⟩
  have s2 : Step w (w1.addP p) := ⟨s1.im, s1.px.trans (Px.app _ _), s1.newI, fun a ha => by
    rcases List.mem_append.mp (show a ∈ w1.ph ++ [p] from ha) with z | z
    · exact s1.newP a z
    · simp at z
      rw [z]; exact .inr p0, s1.keep, s1.live⟩
  refine h1 (w1.addP p) _ s2 (r1.addP p1 p2 p3 p4) (.hnd ?_)
  show (w1.ph ++ [p])[st1.length]? = some p
  rw [← r1.len, List.getElem?_append_right (Nat.le_refl _)]
  simp
def sAsg (f : EE) (fg : D → SS) : SS := fun sd st => (f sd st).toS sd fun x st1 => tgtG (fg x sd st1) fun sd st => .go .nx sd st
theorem sd_asg {W : WX} {te : TE} {f : EE} {g : TG} {fg : D → SS} (he : SE G (EW W) te f) (hg : SG G g fg) : SD G W (tAsg te g) (sAsg f fg) := by
  intro w sv sd st Dn rel sl q
  refine he w sv sd st _ rel sl ((PostS.ofE sl q).imp ?_)
  rintro x _ ⟨w1, dx, st1, rfl, s1, r1, rx, h1⟩
  refine hg w1 x dx sv sd st1 _ r1 (sl.step s1) rx ((tgt_post (h1.step s1)).nx_imp ?_)
  rintro sv2 _ ⟨w2, sd2, st2, rfl, s2, r2, sl2, h2⟩
  exact h2 w2 sv2 (Step.refl _) r2 sl2
def sPar2 (i j : Nat) (f : EA) : SS := fun sd st => (f sd st).toS sd fun ds st1 => match ds with
  | [a, b] => .go .nx ((sd.set i (some a)).set j (some b)) st1
  | _ => .stk
theorem sd_par2 {W : WX} {ta : TA} {f : EA} {i j : Nat} (ha : SA G (EW W) ta f) : SD G W (tPar i j ta) (sPar2 i j f) := by
  intro w sv sd st Dn rel sl q
  refine ha w sv sd st _ rel sl ((PostS.ofE sl q).imp ?_)
  rintro x _ ⟨w1, ds, st1, rfl, s1, r1, rs, h1⟩
  have h1 := h1.step s1
  match ds, rs, h1 with
  | [a, b], rs, h1 =>
    obtain ⟨v, u, rfl, rv, ru⟩ := two_rep rs
    exact ⟨v, u, rfl, h1 w1 _ (Step.refl _) r1 (((sl.step s1).set i rv).set j ru)⟩
  | [], rs, h1 => exact h1.elim
  | [_], rs, h1 => exact h1.elim
  | _ :: _ :: _ :: _, rs, h1 => exact h1.elim
def sPar3 (i j l : Nat) (f : EA) : SS := fun sd st => (f sd st).toS sd fun ds st1 => match ds with
  | [a, b, c] => .go .nx (((sd.set i (some a)).set j (some b)).set l (some c)) st1
  | _ => .stk
theorem sd_par3 {W : WX} {ta : TA} {f : EA} {i j l : Nat} (ha : SA G (EW W) ta f) : SD G W (tPar3 i j l ta) (sPar3 i j l f) := by
  intro w sv sd st Dn rel sl q
  refine ha w sv sd st _ rel sl ((PostS.ofE sl q).imp ?_)
  rintro x _ ⟨w1, ds, st1, rfl, s1, r1, rs, h1⟩
  have h1 := h1.step s1
  match ds, rs, h1 with
  | [a, b, c], rs, h1 =>
    obtain ⟨v, us, rfl, rv, rs2⟩ := rs.inv_cons'
    obtain ⟨u, t, rfl, ru, rt⟩ := two_rep rs2
    exact ⟨v, u, t, rfl, h1 w1 _ (Step.refl _) r1 ((((sl.step s1).set i rv).set j ru).set l rt)⟩
  | [], rs, h1 => exact h1.elim
  | [_], rs, h1 => exact h1.elim
  | [_, _], rs, h1 => exact h1.elim
  | _ :: _ :: _ :: _ :: _, rs, h1 => exact h1.elim
abbrev FL := Sto → List D → Res (List D)
def spF (G : Md) (n : Nat) (f : FL) : Sp := fun vs H Q E => vs.length = n ∧ ∃ w st ds, w.H = H ∧ Rel G w st ∧ Reps G w.I w.ph vs ds ∧ Post G (RF G) w (f st ds) Q E
def allNo (n : Nat) (st : Sto) : Bool := st.all (Cell.mayGo n)
def finL (n k : Nat) (st : Sto) : Res (List D) := match cellAt st k with
  | some xs => if decide (n ≤ k) && (D.noHs xs && allNo n (st.take n)) then .ok xs (st.take n) else .stk
  | none => .stk
def fnL (nl : Nat) (body : SS) : FL := fun st ds => match body (ds.map some ++ List.replicate nl none) st with
  | .go (.ret (.hnd k)) _ st' => finL st.length k st'
  | .ex c _ st' => finX st.length c st'
  | _ => .stk
theorem finL_ok {w w' : Wd} {st st' : Sto} {v : V} {k : Nat} {Q : VK} {E : XK} (rel : Rel G w st) (h : Post G (RF G) w (finL st.length k st') Q E) (s : Step w w') (r : Rel G w' st') (rv : Rep G w'.I w'.ph v (.hnd k)) : Q v w'.H := by
  unfold finL at h
  cases q : cellAt st' k with
  | none => rw [q] at h; exact h.elim
  | some xs =>
    rw [q] at h
    have h : Post G (RF G) w (if decide (st.length ≤ k) && (D.noHs xs && allNo st.length (st'.take st.length)) then .ok xs (st'.take st.length) else .stk) Q E := h
    split at h
    · rename_i hc
      simp only [Bool.and_eq_true, decide_eq_true_eq] at hc
      obtain ⟨a, vs, rfl, k1, k2, k3, k4⟩ := cell_rep r rv q
      obtain ⟨s2, r2⟩ := back rel s r hc.2.2
      have hn : a ∉ w.ph := fun z => by
        obtain ⟨j, hj, e⟩ := List.mem_iff_getElem.mp z
        have e1 := s.px j a (by rw [List.getElem?_eq_getElem hj, e])
        obtain ⟨a1, b1⟩ := List.getElem?_eq_some_iff.mp e1
        obtain ⟨a2, b2⟩ := List.getElem?_eq_some_iff.mp k1
        have := (List.getElem_inj r.nd).mp (b1.trans b2.symm)
        have := rel.len
        omega
      refine h ⟨w'.I, w.ph, w'.H⟩ _ s2 r2 ⟨a, vs, rfl, ?_, hn, k2, k3, k4.anyPh hc.2.1⟩
      rcases s.newP a (List.mem_of_getElem? k1) with z | z
      · exact absurd z hn
      · exact z
    · exact h.elim
theorem fnL_run {W : WX} {ts : TS} {body : SS} {nl : Nat} {N : List Str} {vs : List V} {ds : List D} {w : Wd} {st : Sto} {Q : VK} {E : XK} (hb : SD G W ts body) (hW : ∀ cls d σ H, E cls d H → W cls d σ H) (hN : N.length = vs.length + nl)
    (rel : Rel G w st) (rs : Reps G w.I w.ph vs ds) (h : Post G (RF G) w (fnL nl body st ds) Q E) : ts { nx := fun _ H' => Q .non H', rt := Q } (L2.start N vs) w.H := by
  refine hb w _ _ st _ rel (entry_slots hN rs) ?_
  unfold fnL at h
  cases q : body (ds.map some ++ List.replicate nl none) st with
  | go fl sd st' =>
    rw [q] at h
    cases fl with
    | nx => exact (show False from h).elim
    | brk => exact (show False from h).elim
    | cnt => exact (show False from h).elim
    | ret d =>
      cases d with
      | hnd k => exact fun w2 v s2 r2 rv => finL_ok rel h s2 r2 rv
      | _ => exact (show False from h).elim
  | ex c sd st' =>
    rw [q] at h
    exact fun w2 sv cls dd s2 r2 _ rx => hW _ _ _ _ (finX_ok rel h s2 r2 rx)
  | stk =>
    rw [q] at h
    exact (show False from h).elim
def callRF (st : Sto) (b : Bool) : Res (List D) → Res (List D)
  | .ok xs [] => if b || D.noLs xs then .ok xs st else .stk
  | .ex c [] => if b then .ex c st else .stk
  | _ => .stk
theorem callF_plain {w : Wd} {st : Sto} {f : FL} {vs : List V} {ds : List D} {Q : VK} {E : XK} {n : Nat} (rel : Rel G w st) (rs : Reps G w.I w.ph vs ds) (hn : D.noHs ds = true) (hl : vs.length = n)
    (h : Post G (RF G) w (callRF st true (f [] ds)) Q E) : spF G n f vs w.H Q E := by
  refine ⟨hl, ⟨w.I, [], w.H⟩, [], ds, rfl, rel0 rel, rs.anyPh hn, ?_⟩
  have nope : ∀ {p : List Addr} {r : List Addr}, p = [] → Px p r := fun e i a z => by rw [e] at z; simp at z
  cases q : f [] ds with
  | ok d st' =>
    rw [q] at h
    cases st' with
    | nil =>
      intro w' v s r rv
      obtain ⟨s2, r2⟩ := after0 rel s r
      have h : Post G (RF G) w (Res.ok d st) Q E := h
      obtain ⟨p, us, rfl, p0, p1, p2, p3, p4⟩ := rv
      exact h ⟨w'.I, w.ph, w'.H⟩ _ s2 r2 ⟨p, us, rfl, p0, rel.notFr p0, p2, p3, p4.mono (Evl.Ex.refl _) (nope (ph_nil r))⟩
    | cons _ _ => exact (show False from h).elim
  | ex c st' =>
    rw [q] at h
    cases st' with
    | nil =>
      intro w' cls dd s r rx
      obtain ⟨s2, r2⟩ := after0 rel s r
      have h : Post G (RF G) w (Res.ex c st) Q E := h
      refine h ⟨w'.I, w.ph, w'.H⟩ cls dd s2 r2 ⟨rx.1, ?_⟩
      have hx := rx.2
      cases z : c.arg with
      | none =>
        rw [z] at hx
        exact hx
      | some p =>
        rw [z] at hx
        obtain ⟨a, v, e1, e2, e3⟩ := hx
        exact ⟨a, v, e1, e2, Rep.mono (Evl.Ex.refl _) (nope (ph_nil r)) e3⟩
    | cons _ _ => exact (show False from h).elim
  | stk =>
    rw [q] at h
    exact (show False from h).elim
end
end DS
namespace DS
open PySem PySem.Spec PyProof.Rows L2
/-- where a program stands -/
structure Mo where
  P : Program
  w : World
  K : PySem.W.Frag
  mg : Str → Option Value
  base : Heap
  T : List (Addr × Str)
abbrev Mo.G (M : Mo) : Md := ⟨M.K, M.mg, M.T, fun _ => none⟩
/-- a scope, as it was written, as it is seen -/
structure Sc where
  o : Scope
  v : Scope
  la : Option (Addr × Addr × Str)
  gd : Bool
  ge : Option (Addr × Addr × Str)
/-- the code object c of the def and its table at P, if lambdas are made there -/
structure LaOk (M : Mo) (c P : Addr) (q : Str) : Prop where
  tb : LamX.TabB M.base M.mg c P
  mem : (P, q ++ "<lambda>") ∈ M.T
  one : ∀ p ∈ M.T, p.1 = P → p.2 = q ++ "<lambda>"
/-- .. if generator expressions are made there -/
structure GeOk (M : Mo) (c P : Addr) (q : Str) : Prop where
  tb : LamX.TabB M.base M.mg c P
  mem : (P, q ++ "<genexpr>") ∈ M.T
  one : ∀ p ∈ M.T, p.1 = P → p.2 = q ++ "<genexpr>"
def relab (sc scope : Scope) : Scope := { scope with names := scope.names.map fun (n, k) => if (k == NameKind.free && sc.kind == .function && sc.names.lookup n == some .cell) then (n, .cell) else (n, k) }
abbrev Sc.sub (sc : Sc) (scope : Scope) : Sc := ⟨scope, relab sc.v scope, sc.la, sc.gd, sc.ge⟩
/-- a body's surroundings: level, ways out, names, scope -/
structure CK (M : Mo) (k : Nat) (W : WX) (N : List Str) (sc : Sc) (X : Cx) : Prop where
  eP : X.prog = M.P
  ew : X.w = M.w
  eK : X.K = M.K
  em : X.mg = M.mg
  eb : X.base = M.base
  eN : X.N = N
  es : X.env.scope = sc.v
  calm : X.calm = true
  rm : Room k X.A
  nd : N.Nodup
  fn : ∀ x, L2.Loc sc.o x → X.fn x = true ∨ sc.v.names.lookup x = some .local
  pass : ∀ σ, PassesAt (L2.CX X.prog X.w) X σ (EW W σ)
  la : ∀ c P q, sc.la = some (c, P, q) → X.env.code = .ref c ∧ X.env.qual = q ∧ LaOk M c P q
  gd : sc.gd = true → X.A.guards = some []
  ge : ∀ c P q, sc.ge = some (c, P, q) → X.env.code = .ref c ∧ X.env.qual = q ∧ GeOk M c P q
structure CS (M : Mo) (k : Nat) (W : WX) (N : List Str) (sc : Sc) (X : Cx) : Prop extends CK M k W N sc X where
  hp : PassesOwn (model X.prog X.w) X.A X.env X.xe
  tk : Takes X W
  sk : X.stack = X.env :: X.outer
  frm : X.env.frame = some X.env.locals
def WF : WX := fun _ _ _ _ => False
theorem room_un {k : Nat} {A : Around} (h : Room k A) : A.units + 65 < cLine := by
  have := h.un
  omega
theorem room_hu {k : Nat} {A : Around} (h : Room k A) : A.units + 64 < cLine := by
  have := h.un
  omega
section
variable {M : Mo} {k : Nat} {W : WX} {N : List Str} {sc : Sc}
theorem env_eta {e : Env} (h : e.scope = sc.v) : e = { e with scope := sc.v } := by rw [← h]
def DE (M : Mo) (k : Nat) (W : WX) (N : List Str) (sc : Sc) (e : Expr) (f : EE) : Prop := ∃ te, (∀ X, CK M k W N sc X → PE X e te) ∧ SE M.G (EW W) te f
def DF (M : Mo) (k : Nat) (W : WX) (N : List Str) (sc : Sc) (e : Expr) (f : EA) : Prop := ∃ te, (∀ X, CK M k W N sc X → PE X e te) ∧ SF M.G (EW W) te f
def DA (M : Mo) (k : Nat) (W : WX) (N : List Str) (sc : Sc) (es : List Expr) (f : EA) : Prop := ∃ te, (∀ X, CK M k W N sc X → PA X es te) ∧ SA M.G (EW W) te f
def DT (M : Mo) (k : Nat) (W : WX) (N : List Str) (sc : Sc) (e : Expr) (f : ET) : Prop := ∃ te, (∀ X, CK M k W N sc X → PT X e te) ∧ ST M.G (EW W) te f
def DW (M : Mo) (k : Nat) (W : WX) (N : List Str) (sc : Sc) (e : Expr) (f : ET) : Prop := ∃ te, (∀ X, CK M k W N sc X → PW X e te) ∧ ST M.G (EW W) te f
def DO (M : Mo) (k : Nat) (W : WX) (N : List Str) (sc : Sc) (e : Option Expr) (f : EO) : Prop := ∃ te, (∀ X, CK M k W N sc X → PO X e te) ∧ SO M.G (EW W) te f
def DI (M : Mo) (k : Nat) (W : WX) (N : List Str) (sc : Sc) (tg e : Expr) (f : EI) : Prop := ∃ te, (∀ X, CK M k W N sc X → PI X tg e te) ∧ SI M.G (EW W) te f
def Keeps (g : TG) (vs : List Nat) : Prop := ∀ x σ H (Q : L2.St → Hp → Prop), g x σ H Q → g x σ H fun σ2 H2 => L2.wipe σ2 vs = L2.wipe σ vs ∧ Q σ2 H2
def DG (M : Mo) (k : Nat) (W : WX) (N : List Str) (sc : Sc) (vs : List Nat) (tg : Expr) (f : D → SS) : Prop := ∃ te, (∀ X, CK M k W N sc X → PG X tg te) ∧ SG M.G te f ∧ Keeps te vs
def D1 (M : Mo) (k : Nat) (W : WX) (N : List Str) (sc : Sc) (st : Stmt) (f : SS) : Prop := ∃ ts, (∀ X, CS M k W N sc X → PS X st ts) ∧ SD M.G W ts f
def DB (M : Mo) (k : Nat) (W : WX) (N : List Str) (sc : Sc) (sts : List Stmt) (f : SS) : Prop := ∃ ts, (∀ X, CS M k W N sc X → PSs X sts ts) ∧ SD M.G W ts f
variable {e a b c : Expr} {es : List Expr} {f fa fb fc : EE} {fs fr : EA} {t t2 : ET} {pos p px py pt : Pos} {x : Str}
theorem de_var (i : Nat) (hN : N[i]? = some x) (hv : Vis sc.v x) (h1 : (x == ("__debug__" : Str)) = false := by rfl) (h2 : (x == ("__classdict__" : Str)) = false := by rfl) : DE M k W N sc (.Name x pos) (eVar i) :=
  ⟨_, fun X c => pe_var (i := i) (by rw [c.eN]; exact hN) (by rw [c.es]; exact hv) h1 h2, se_var⟩
theorem de_int {i : Int} {j : Nat} : DE M k W N sc (.Constant (.int i) j pos) (eC (.int i)) := ⟨_, fun X c => pe_int, se_c fun _ _ => .int i⟩
theorem de_bl {i : Bool} {j : Nat} : DE M k W N sc (.Constant (.bool i) j pos) (eC (.bl i)) := ⟨_, fun X c => pe_bl, se_c fun _ _ => .bl i⟩
theorem de_non {j : Nat} : DE M k W N sc (.Constant .none j pos) (eC .non) := ⟨_, fun X c => pe_non, se_c fun _ _ => .non⟩
theorem de_str {i : Str} {j : Nat} : DE M k W N sc (.Constant (.str i) j pos) (eC (.str i)) := ⟨_, fun X c => pe_str, se_c fun _ _ => .str i⟩
/-- a name of the module -/
def Glb (M : Mo) (x : Str) (d : D) : Prop := ∃ v u, M.mg x = some u ∧ L2.RelV v u ∧ ∀ I ph, Rep M.G I ph v d
theorem gl_of {X : Cx} (c : CK M k W N sc X) (h : ∀ env : Env, ({ env with scope := sc.v } : Env).kindOf x = some .globalImplicit) : Gl X x := by
  show X.env.kindOf x = _
  rw [env_eta c.es]
  exact h X.env
theorem de_glob {d : D} (h : Glb M x d) (hg : ∀ env : Env, ({ env with scope := sc.v } : Env).kindOf x = some .globalImplicit := by intro _; rfl) (h1 : (x == ("__debug__" : Str)) = false := by rfl) : DE M k W N sc (.Name x pos) (eC d) := by
  obtain ⟨v, u, e1, r, hr⟩ := h
  exact ⟨_, fun X c => pe_glob (gl_of c hg) (by rw [c.em]; exact e1) r h1, se_c hr⟩
theorem de_ty {n : String} (h : M.mg x = none) (hv : bootBuiltins x = some (.type n)) (hg : ∀ env : Env, ({ env with scope := sc.v } : Env).kindOf x = some .globalImplicit := by intro _; rfl) (hn : x ≠ ("__name__" : Str) := by decide) (h1 : (x == ("__debug__" : Str)) = false := by rfl) : DE M k W N sc (.Name x pos) (eC (.ty n)) :=
  ⟨_, fun X c => pe_bltn (v := .ty n) (gl_of c hg) (by rw [c.em]; exact h) hv rfl hn h1, se_c fun _ _ => .ty n⟩
theorem de_op {op : Operator} {r : R2} {g : Sto → D → D → Option D} (ho : ∀ X, CK M k W N sc X → OpR X (binaryOp op) r) (hg : OpD M.G r g) (ha : DE M k W N sc a fa) (hb : DE M k W N sc b fb) : DE M k W N sc (.BinOp a op b pos) (eOp g fa fb) := by
  obtain ⟨ta, pa, sa⟩ := ha
  obtain ⟨tb, pb, sb⟩ := hb
  exact ⟨_, fun X c => pe_op (ho X c) (pa X c) (pb X c), se_op hg sa sb⟩
theorem df_op {op : Operator} {r : R2} {g : Sto → D → D → Option (List D)} (ho : ∀ X, CK M k W N sc X → OpR X (binaryOp op) r) (hg : OpF M.G r g) (ha : DE M k W N sc a fa) (hb : DE M k W N sc b fb) : DF M k W N sc (.BinOp a op b pos) (fOp g fa fb) := by
  obtain ⟨ta, pa, sa⟩ := ha
  obtain ⟨tb, pb, sb⟩ := hb
  exact ⟨_, fun X c => pe_op (ho X c) (pa X c) (pb X c), sf_op hg sa sb⟩
theorem de_add (ha : DE M k W N sc a fa) (hb : DE M k W N sc b fb) : DE M k W N sc (.BinOp a .Add b pos) (eOp addD fa fb) := de_op (r := rAddD M.K) (fun X c => by rw [← c.eK]; exact op_addD) d_addD ha hb
theorem de_sub (ha : DE M k W N sc a fa) (hb : DE M k W N sc b fb) : DE M k W N sc (.BinOp a .Sub b pos) (eOp (ints2 fun i j => some (.int (i - j))) fa fb) := de_op (fun X c => op_sub) d_sub ha hb
theorem de_mul (ha : DE M k W N sc a fa) (hb : DE M k W N sc b fb) : DE M k W N sc (.BinOp a .Mult b pos) (eOp mulD fa fb) := de_op (r := rMulD M.K) (fun X c => by rw [← c.eK]; exact op_mulD) d_mulD ha hb
theorem de_mod (ha : DE M k W N sc a fa) (hb : DE M k W N sc b fb) : DE M k W N sc (.BinOp a .Mod b pos) (eOp (ints2 modI) fa fb) := de_op (fun X c => op_mod) d_mod ha hb
theorem de_fdiv (ha : DE M k W N sc a fa) (hb : DE M k W N sc b fb) : DE M k W N sc (.BinOp a .FloorDiv b pos) (eOp (ints2 divI) fa fb) := de_op (fun X c => op_fdivW) d_fdiv ha hb
theorem de_pow (ha : DE M k W N sc a fa) (hb : DE M k W N sc b fb) : DE M k W N sc (.BinOp a .Pow b pos) (eOp (ints2 powI) fa fb) := de_op (fun X c => op_pow) d_pow ha hb
theorem df_rep (ha : DE M k W N sc a fa) (hb : DE M k W N sc b fb) : DF M k W N sc (.BinOp a .Mult b pos) (fOp fRep fa fb) := df_op (fun X c => op_rep) f_rep ha hb
theorem de_neg (ha : DE M k W N sc a fa) : DE M k W N sc (.UnaryOp .USub a pos) (eUn negD fa) := by
  obtain ⟨ta, pa, sa⟩ := ha
  exact ⟨_, fun X c => pe_un un_neg (pa X c), se_un d_neg sa⟩
structure CmpOf (M : Mo) (op : CmpOp) (r : R2) (g : Sto → D → D → Option D) : Prop where
  op : ∀ X, X.K = M.K → X.A.units + 64 < cLine → OpR X (compareOp op) r
  d : OpD M.G r g
theorem cm_lt : CmpOf M .Lt (rI0 fun i j => .bl (decide (i < j))) (ints2 fun i j => some (.bl (decide (i < j)))) := ⟨fun X _ _ => op_lt, d_lt⟩
theorem cm_le : CmpOf M .LtE (rI0 fun i j => .bl (decide (i ≤ j))) (ints2 fun i j => some (.bl (decide (i ≤ j)))) := ⟨fun X _ _ => op_le, d_le⟩
theorem cm_gt : CmpOf M .Gt (rI0 fun i j => .bl (decide (j < i))) (ints2 fun i j => some (.bl (decide (j < i)))) := ⟨fun X _ _ => op_gt, d_gt⟩
theorem cm_eq : CmpOf M .Eq (rEqD M.K) eqD := ⟨fun X h u => by rw [← h]; exact op_eqD u, d_eq⟩
theorem cm_ne : CmpOf M .NotEq (rNeD M.K) neD := ⟨fun X h u => by rw [← h]; exact op_neD u, d_ne⟩
theorem cm_notin : CmpOf M .NotIn (rIn M.K true) (inD true) := ⟨fun X h u => by rw [← h]; exact op_notIn_seq, d_in⟩
variable {op op' : CmpOp} {r r' : R2} {g g' : Sto → D → D → Option D}
theorem de_cmp (ho : CmpOf M op r g) (ha : DE M k W N sc a fa) (hb : DE M k W N sc b fb) (hm : behindInMarks op b = false := by rfl) : DE M k W N sc (.Compare a [op] [b] pos) (eOp g fa fb) := by
  obtain ⟨ta, pa, sa⟩ := ha
  obtain ⟨tb, pb, sb⟩ := hb
  exact ⟨_, fun X c => pe_cmpR (ho.op X c.eK (room_hu c.rm)) (pa X c) (pb X c) hm, se_op ho.d sa sb⟩
theorem dt_cmp (ho : CmpOf M op r g) (ha : DE M k W N sc a fa) (hb : DE M k W N sc b fb) (hm : behindInMarks op b = false := by rfl) : DT M k W N sc (.Compare a [op] [b] pos) (eTest (eOp g fa fb)) := by
  obtain ⟨ta, pa, sa⟩ := ha
  obtain ⟨tb, pb, sb⟩ := hb
  exact ⟨_, fun X c => pt_cmpR (ho.op X c.eK (room_hu c.rm)) (pa X c) (pb X c) hm, st_test (se_op ho.d sa sb)⟩
theorem de_chain (ho : CmpOf M op r g) (ho' : CmpOf M op' r' g') (ha : DE M k W N sc a fa) (hb : DE M k W N sc b fb) (hc : DE M k W N sc c fc) (hm : lastMarks [op, op'] [b, c] = false := by rfl) : DE M k W N sc (.Compare a [op, op'] [b, c] pos) (eChain g g' fa fb fc) := by
  obtain ⟨ta, pa, sa⟩ := ha
  obtain ⟨tb, pb, sb⟩ := hb
  obtain ⟨tc, pc, s3⟩ := hc
  exact ⟨_, fun X c => pe_chain (ho.op X c.eK (room_hu c.rm)) (ho'.op X c.eK (room_hu c.rm)) (pa X c) (pb X c) (pc X c) hm, se_chain ho.d ho'.d sa sb s3⟩
/-- any expression that gives a bool, as a test -/
theorem dt_val (h : DE M k W N sc e f) (hw : ∀ (env : Env) (whole : Sem Value), PySem.isTrue e env whole = (do let v ← whole; standAt e.pos; holding [v] (truthy v)) := by intro _ _; rfl) : DT M k W N sc e (eTest f) := by
  obtain ⟨te, pe, se⟩ := h
  exact ⟨_, fun X c => pt_val (pe X c) (fun w => hw X.env w), st_B se⟩
theorem dw_and {rest : List Expr} (ha : DT M k W N sc a t) (hb : DW M k W N sc (.BoolOp .And (b :: rest) pos) t2) : DW M k W N sc (.BoolOp .And (a :: b :: rest) pos) (eAnd t t2) := by
  obtain ⟨ta, pa, sa⟩ := ha
  obtain ⟨tb, pb, sb⟩ := hb
  exact ⟨_, fun X c => pw_and (pa X c) (pb X c), st_and sa sb⟩
theorem dw_and1 (ha : DT M k W N sc a t) : DW M k W N sc (.BoolOp .And [a] pos) t := by
  obtain ⟨ta, pa, sa⟩ := ha
  exact ⟨_, fun X c => pw_and1 (pa X c), sa⟩
theorem dw_or {rest : List Expr} (ha : DT M k W N sc a t) (hb : DW M k W N sc (.BoolOp .Or (b :: rest) pos) t2) : DW M k W N sc (.BoolOp .Or (a :: b :: rest) pos) (eOr t t2) := by
  obtain ⟨ta, pa, sa⟩ := ha
  obtain ⟨tb, pb, sb⟩ := hb
  exact ⟨_, fun X c => pw_or (pa X c) (pb X c), st_or sa sb⟩
theorem dw_or1 (ha : DT M k W N sc a t) : DW M k W N sc (.BoolOp .Or [a] pos) t := by
  obtain ⟨ta, pa, sa⟩ := ha
  exact ⟨_, fun X c => pw_or1 (pa X c), sa⟩
theorem dt_w (h : DW M k W N sc e t) : DT M k W N sc e t := by
  obtain ⟨ta, pa, sa⟩ := h
  exact ⟨_, fun X c => (pa X c).pt, sa⟩
theorem dt_not (h : DT M k W N sc a t) : DT M k W N sc (.UnaryOp .Not a pos) (eNot t) := by
  obtain ⟨ta, pa, sa⟩ := h
  exact ⟨_, fun X c => pt_not (pa X c), st_not sa⟩
theorem de_and {rest : List Expr} (ha : DE M k W N sc a fa) (hb : DE M k W N sc (.BoolOp .And (b :: rest) pos) fb) : DE M k W N sc (.BoolOp .And (a :: b :: rest) pos) (eAndV fa fb) := by
  obtain ⟨ta, pa, sa⟩ := ha
  obtain ⟨tb, pb, sb⟩ := hb
  exact ⟨_, fun X c => pe_and (pa X c) (pb X c), se_andV sa sb⟩
theorem de_or {rest : List Expr} (ha : DE M k W N sc a fa) (hb : DE M k W N sc (.BoolOp .Or (b :: rest) pos) fb) : DE M k W N sc (.BoolOp .Or (a :: b :: rest) pos) (eOrV fa fb) := by
  obtain ⟨ta, pa, sa⟩ := ha
  obtain ⟨tb, pb, sb⟩ := hb
  exact ⟨_, fun X c => pe_or (pa X c) (pb X c), se_orV sa sb⟩
theorem de_one {bop : BoolOp} (ha : DE M k W N sc a fa) : DE M k W N sc (.BoolOp bop [a] pos) fa := by
  obtain ⟨ta, pa, sa⟩ := ha
  exact ⟨_, fun X c => pe_one (pa X c), sa⟩
theorem de_not (ha : DE M k W N sc a fa) : DE M k W N sc (.UnaryOp .Not a pos) (eNotV fa) := by
  obtain ⟨ta, pa, sa⟩ := ha
  exact ⟨_, fun X c => pe_not (pa X c), se_notV sa⟩
theorem de_if (hc : DT M k W N sc c t) (ha : DE M k W N sc a fa) (hb : DE M k W N sc b fb) : DE M k W N sc (.IfExp c a b pos) (eIf t fa fb) := by
  obtain ⟨tc, pc, s3⟩ := hc
  obtain ⟨ta, pa, sa⟩ := ha
  obtain ⟨tb, pb, sb⟩ := hb
  exact ⟨_, fun X c => pe_ifExp (pc X c) (pa X c) (pb X c), se_if s3 sa sb⟩
theorem da_nil : DA M k W N sc [] aNil := ⟨_, fun X c => pa_nil, sa_nil⟩
theorem da_cons (ha : DE M k W N sc e f) (hr : DA M k W N sc es fr) (hs : ∀ env : Env, starEach (e :: es) env = (false, eval e env) :: starEach es env := by intro _; rfl) : DA M k W N sc (e :: es) (aCons f fr) := by
  obtain ⟨ta, pa, sa⟩ := ha
  obtain ⟨tb, pb, sb⟩ := hr
  exact ⟨_, fun X c => pa_cons (pa X c) (pb X c) (hs X.env), sa_cons sa sb⟩
theorem de_tup {x1 : Nat} (h : DA M k W N sc es fs) : DE M k W N sc (.Tuple es x1 pos) (eTup fs) := by
  obtain ⟨ta, pa, sa⟩ := h
  exact ⟨_, fun X c => pe_tup (pa X c), se_tup sa⟩
theorem df_lst (h : DA M k W N sc es fs) : DF M k W N sc (.List es pos) (fLst fs) := by
  obtain ⟨ta, pa, sa⟩ := h
  exact ⟨_, fun X c => pe_lst (pa X c), sf_lst sa⟩
theorem de_fz (h : DF M k W N sc e fs) : DE M k W N sc e (eFz fs) := by
  obtain ⟨ta, pa, sa⟩ := h
  exact ⟨_, pa, se_fz sa⟩
theorem de_hnd (h : DF M k W N sc e fs) : DE M k W N sc e (eHnd fs) := by
  obtain ⟨ta, pa, sa⟩ := h
  exact ⟨_, pa, se_hnd sa⟩
theorem de_dict0 : DE M k W N sc (.Dict [] [] pos) eDict0 := ⟨_, fun X c => pe_dnewK, se_dict0⟩
/-- a def that stands in the module, at a level -/
def Has (M : Mo) (x : Str) (j : Nat) (ps : List Str) (dvs : List V) (sp : Sp) : Prop := ∃ fd a ds, FnOk M.P M.w M.K M.mg M.base (L2.CX M.P M.w) j a fd ps sp ∧ M.mg x = some (.ref a) ∧ PySem.W.keepIn M.K (.ref a) = true ∧ L2.Binds M.K fd ps ds ∧ Vals dvs ds
def callD (n : Nat) (ff : FF) (st : Sto) (ds : List D) : Res D := if ds.length = n then (if D.noHs ds then callR st true (ff [] ds) else match snaps st ds with
  | some xs => callR st false (ff [] xs)
  | none => .stk) else .stk
def callBD (n : Nat) (ff : FF) (st : Sto) (ds : List D) : Res D := if ds.length = n then (match ds with
  | .hnd h :: rest => match st[h]? with
    | some (.lst xs) => if D.noHs xs && D.noHs rest then callB st h (ff [.lst xs] (.hnd 0 :: rest)) else .stk
    | _ => .stk
  | _ => .stk) else .stk
def callLD (n : Nat) (ff : FL) (st : Sto) (ds : List D) : Res (List D) := if ds.length = n then (if D.noHs ds then callRF st true (ff [] ds) else .stk) else .stk
/-- f(..), with the defaults' values dds -/
def eCal (n : Nat) (ff : FF) (dds : List D) (fa : EA) : EE := fun sd st => (fa sd st).bind fun ds st1 => callD n ff st1 (ds ++ dds)
def eCalB (n : Nat) (ff : FF) (dds : List D) (fa : EA) : EE := fun sd st => (fa sd st).bind fun ds st1 => callBD n ff st1 (ds ++ dds)
def fCal (n : Nat) (ff : FL) (dds : List D) (fa : EA) : EA := fun sd st => (fa sd st).bind fun ds st1 => callLD n ff st1 (ds ++ dds)
theorem callD_ok {G : Md} {w : Wd} {st : Sto} {n : Nat} {ff : FF} {vs : List V} {ds : List D} {Q : VK} {E : XK} (rel : Rel G w st) (rs : Reps G w.I w.ph vs ds) (h : Post G (RE G) w (callD n ff st ds) Q E) : spD G n ff vs w.H Q E := by
  unfold callD at h
  split at h
  · rename_i hl
    have hl2 : vs.length = n := by rw [rs.1]; exact hl
    split at h
    · rename_i hn
      exact call_plain rel rs hn hl2 h
    · cases q : snaps st ds with
      | none => rw [q] at h; exact h.elim
      | some xs =>
        rw [q] at h
        exact call_snap rel (snaps_rep rel rs q) hl2 h
  · exact h.elim
theorem callBD_ok {G : Md} {w : Wd} {st : Sto} {n : Nat} {ff : FF} {vs : List V} {ds : List D} {Q : VK} {E : XK} (rel : Rel G w st) (rs : Reps G w.I w.ph vs ds) (h : Post G (RE G) w (callBD n ff st ds) Q E) : spD G n ff vs w.H Q E := by
  unfold callBD at h
  split at h
  · rename_i hl
    have hl2 : vs.length = n := by rw [rs.1]; exact hl
    cases ds with
    | nil => exact h.elim
    | cons d rest =>
      cases d with
      | hnd i =>
        obtain ⟨v, us, rfl, rv, rr⟩ := rs.inv_cons'
        have h : Post G (RE G) w (match st[i]? with
          | some (.lst xs) => if D.noHs xs && D.noHs rest then callB st i (ff [.lst xs] (.hnd 0 :: rest)) else .stk
          | _ => .stk) Q E := h
        cases q : st[i]? with
        | none => rw [q] at h; exact h.elim
        | some c =>
          rw [q] at h
          cases c with
          | dead => exact h.elim
          | ob j c fs => exact h.elim
          | lst xs =>
            have h : Post G (RE G) w (if D.noHs xs && D.noHs rest then callB st i (ff [.lst xs] (.hnd 0 :: rest)) else .stk) Q E := h
            split at h
            · rename_i hh
              rw [Bool.and_eq_true] at hh
              exact call_bag rel rv q hh.1 rr hh.2 hl2 h
            · exact h.elim
      | _ => exact h.elim
  · exact h.elim
theorem callLD_ok {G : Md} {w : Wd} {st : Sto} {n : Nat} {ff : FL} {vs : List V} {ds : List D} {Q : VK} {E : XK} (rel : Rel G w st) (rs : Reps G w.I w.ph vs ds) (h : Post G (RF G) w (callLD n ff st ds) Q E) : spF G n ff vs w.H Q E := by
  unfold callLD at h
  split at h
  · rename_i hl
    split at h
    · rename_i hn
      exact callF_plain rel rs hn (by rw [rs.1]; exact hl) h
    · exact h.elim
  · exact h.elim
theorem se_cal {n : Nat} {ff : FF} {dvs : List V} {dds : List D} {E : L2.St → XK} {ta : TA} (hd : ∀ I ph, Reps M.G I ph dvs dds) (ha : SA M.G E ta fs) : SE M.G E (tCallSD (spD M.G n ff) dvs E ta) (eCal n ff dds fs) := by
  intro w sv sd st Q rel sl h
  refine ha w sv sd st _ rel sl ((Post.bind h).imp ?_)
  rintro vs _ ⟨w1, ds, st1, rfl, s1, r1, rs, h1⟩
  exact callD_ok r1 (rs.append (hd _ _)) (h1.step anE s1)
theorem se_calB {n : Nat} {ff : FF} {dvs : List V} {dds : List D} {E : L2.St → XK} {ta : TA} (hd : ∀ I ph, Reps M.G I ph dvs dds) (ha : SA M.G E ta fs) : SE M.G E (tCallSD (spD M.G n ff) dvs E ta) (eCalB n ff dds fs) := by
  intro w sv sd st Q rel sl h
  refine ha w sv sd st _ rel sl ((Post.bind h).imp ?_)
  rintro vs _ ⟨w1, ds, st1, rfl, s1, r1, rs, h1⟩
  exact callBD_ok r1 (rs.append (hd _ _)) (h1.step anE s1)
theorem sf_cal {n : Nat} {ff : FL} {dvs : List V} {dds : List D} {E : L2.St → XK} {ta : TA} (hd : ∀ I ph, Reps M.G I ph dvs dds) (ha : SA M.G E ta fs) : SF M.G E (tCallSD (spF M.G n ff) dvs E ta) (fCal n ff dds fs) := by
  intro w sv sd st Q rel sl h
  refine ha w sv sd st _ rel sl ((Post.bind h).imp ?_)
  rintro vs _ ⟨w1, ds, st1, rfl, s1, r1, rs, h1⟩
  exact callLD_ok r1 (rs.append (hd _ _)) (h1.step anF s1)
theorem pe_has {X : Cx} {j : Nat} {ps : List Str} {dvs : List V} {sp : Sp} {ta : TA} (c : CK M k W N sc X) (h : Has M x j ps dvs sp) (hj : j ≤ k) (hg : Gl X x) (ha : PA X (e :: es) ta) (hs : starEach (e :: es) X.env = (false, eval e X.env) :: starEach es X.env) (hp : ((backTo pos (starEach es X.env)).any (·.1)) = false) (h1 : (x == ("__debug__" : Str)) = false) :
    PE X (.Call (.Name x p) (e :: es) [] pos) (tCallSD sp dvs (EW W) ta) := by
  obtain ⟨fd, aa, ds, F, gm, kp, B, vd⟩ := h
  obtain ⟨eP, ew, eK, em, eb, eN, eS, ecalm, rm, nd, fn, pass, hla, hgd, hge⟩ := c
  cases X
  subst eP ew eK em eb
  exact pe_callSD F (rm.mono hj) hg gm kp B vd pass ha h1 hs hp
theorem de_call {j n : Nat} {ps : List Str} {dvs : List V} {dds : List D} {ff : FF} (h : Has M x j ps dvs (spD M.G n ff)) (hj : j ≤ k) (hd : ∀ I ph, Reps M.G I ph dvs dds) (ha : DA M k W N sc (e :: es) fs)
    (hg : ∀ env : Env, ({ env with scope := sc.v } : Env).kindOf x = some .globalImplicit := by intro _; rfl) (hs : ∀ env : Env, starEach (e :: es) env = (false, eval e env) :: starEach es env := by intro _; rfl) (hp : ∀ env : Env, ((backTo pos (starEach es env)).any (·.1)) = false := by intro _; rfl) (h1 : (x == ("__debug__" : Str)) = false := by rfl) :
    DE M k W N sc (.Call (.Name x p) (e :: es) [] pos) (eCal n ff dds fs) := by
  obtain ⟨ta, pa, sa⟩ := ha
  exact ⟨_, fun X c => pe_has c h hj (gl_of c hg) (pa X c) (hs X.env) (hp X.env) h1, se_cal hd sa⟩
theorem de_callB {j n : Nat} {ps : List Str} {dvs : List V} {dds : List D} {ff : FF} (h : Has M x j ps dvs (spD M.G n ff)) (hj : j ≤ k) (hd : ∀ I ph, Reps M.G I ph dvs dds) (ha : DA M k W N sc (e :: es) fs)
    (hg : ∀ env : Env, ({ env with scope := sc.v } : Env).kindOf x = some .globalImplicit := by intro _; rfl) (hs : ∀ env : Env, starEach (e :: es) env = (false, eval e env) :: starEach es env := by intro _; rfl) (hp : ∀ env : Env, ((backTo pos (starEach es env)).any (·.1)) = false := by intro _; rfl) (h1 : (x == ("__debug__" : Str)) = false := by rfl) :
    DE M k W N sc (.Call (.Name x p) (e :: es) [] pos) (eCalB n ff dds fs) := by
  obtain ⟨ta, pa, sa⟩ := ha
  exact ⟨_, fun X c => pe_has c h hj (gl_of c hg) (pa X c) (hs X.env) (hp X.env) h1, se_calB hd sa⟩
theorem df_call {j n : Nat} {ps : List Str} {dvs : List V} {dds : List D} {ff : FL} (h : Has M x j ps dvs (spF M.G n ff)) (hj : j ≤ k) (hd : ∀ I ph, Reps M.G I ph dvs dds) (ha : DA M k W N sc (e :: es) fs)
    (hg : ∀ env : Env, ({ env with scope := sc.v } : Env).kindOf x = some .globalImplicit := by intro _; rfl) (hs : ∀ env : Env, starEach (e :: es) env = (false, eval e env) :: starEach es env := by intro _; rfl) (hp : ∀ env : Env, ((backTo pos (starEach es env)).any (·.1)) = false := by intro _; rfl) (h1 : (x == ("__debug__" : Str)) = false := by rfl) :
    DF M k W N sc (.Call (.Name x p) (e :: es) [] pos) (fCal n ff dds fs) := by
  obtain ⟨ta, pa, sa⟩ := ha
  exact ⟨_, fun X c => pe_has c h hj (gl_of c hg) (pa X c) (hs X.env) (hp X.env) h1, sf_cal hd sa⟩
structure BltB (M : Mo) (id : String) (r : List V → Hp → VK → Prop) (g : Sto → List D → Option D) : Prop where
  c : ∀ X, X.K = M.K → X.calm = true → CallR X (.builtin id) r
  d : CaD M.G r g
structure BltT (M : Mo) (T : String) (r : List V → Hp → VK → Prop) (g : Sto → List D → Option D) : Prop where
  c : ∀ X, X.K = M.K → X.calm = true → CallR X (.type T) r
  d : CaD M.G r g
structure BltF (M : Mo) (T : String) (r : List V → Hp → VK → Prop) (g : Sto → List D → Option (List D)) : Prop where
  c : ∀ X, X.K = M.K → X.calm = true → CallR X (.type T) r
  d : CaF M.G r g
theorem bl_len : BltB M "len" (rLen M.K) lenD := ⟨fun X h _ => by rw [← h]; exact call_len, c_len⟩
theorem bl_abs : BltB M "abs" rAbs absD := ⟨fun X h _ => call_abs, c_abs⟩
theorem bl_max2 : BltB M "max" rMax2 max2D := ⟨fun X h c => call_max2 c, c_max2⟩
theorem bl_min2 : BltB M "min" rMin2 min2D := ⟨fun X h c => call_min2 c, c_min2⟩
theorem bl_all : BltB M "all" (rAll M.K) (onB fun bs => some (.bl (bs.all id))) := ⟨fun X h c => by rw [← h]; exact cr_all c, c_all⟩
theorem bl_any : BltB M "any" (rAny M.K) (onB fun bs => some (.bl (bs.any id))) := ⟨fun X h c => by rw [← h]; exact cr_any c, c_any⟩
theorem bl_int : BltT M "int" rInt1 intOf := ⟨fun X h _ => call_int1, c_int⟩
theorem bl_tuple : BltT M "tuple" (rTupOf M.K) tupleD := ⟨fun X h _ => by rw [← h]; exact call_tuple_of, c_tuple⟩
theorem bl_list : BltF M "list" (rLstOf M.K) listD := ⟨fun X h _ => by rw [← h]; exact call_list_of, c_list⟩
theorem de_blt {id : String} {r : List V → Hp → VK → Prop} {g : Sto → List D → Option D} (hb : BltB M id r g) (hm : M.mg x = none) (ha : DA M k W N sc (e :: es) fs) (hv : bootBuiltins x = some (.builtin id) := by decide +kernel)
    (hg : ∀ env : Env, ({ env with scope := sc.v } : Env).kindOf x = some .globalImplicit := by intro _; rfl) (hs : ∀ env : Env, starEach (e :: es) env = (false, eval e env) :: starEach es env := by intro _; rfl) (hp : ∀ env : Env, ((backTo pos (starEach es env)).any (·.1)) = false := by intro _; rfl) (hn : x ≠ ("__name__" : Str) := by decide) (h1 : (x == ("__debug__" : Str)) = false := by rfl) :
    DE M k W N sc (.Call (.Name x p) (e :: es) [] pos) (eCB g fs) := by
  obtain ⟨ta, pa, sa⟩ := ha
  exact ⟨_, fun X c => pe_callB (hb.c X c.eK c.calm) (gl_of c hg) (by rw [c.em]; exact hm) hv (pa X c) hn h1 (hs X.env) (hp X.env), se_cb hb.d sa⟩
theorem de_bltT {T : String} {r : List V → Hp → VK → Prop} {g : Sto → List D → Option D} (hb : BltT M T r g) (hm : M.mg x = none) (ha : DA M k W N sc (e :: es) fs) (hv : bootBuiltins x = some (.type T) := by decide +kernel)
    (hg : ∀ env : Env, ({ env with scope := sc.v } : Env).kindOf x = some .globalImplicit := by intro _; rfl) (hs : ∀ env : Env, starEach (e :: es) env = (false, eval e env) :: starEach es env := by intro _; rfl) (hp : ∀ env : Env, ((backTo pos (starEach es env)).any (·.1)) = false := by intro _; rfl) (hn : x ≠ ("__name__" : Str) := by decide) (h1 : (x == ("__debug__" : Str)) = false := by rfl) :
    DE M k W N sc (.Call (.Name x p) (e :: es) [] pos) (eCB g fs) := by
  obtain ⟨ta, pa, sa⟩ := ha
  exact ⟨_, fun X c => pe_callTy (hb.c X c.eK c.calm) (gl_of c hg) (by rw [c.em]; exact hm) hv (pa X c) hn h1 (hs X.env) (hp X.env), se_cb hb.d sa⟩
theorem df_bltT {T : String} {r : List V → Hp → VK → Prop} {g : Sto → List D → Option (List D)} (hb : BltF M T r g) (hm : M.mg x = none) (ha : DA M k W N sc (e :: es) fs) (hv : bootBuiltins x = some (.type T) := by decide +kernel)
    (hg : ∀ env : Env, ({ env with scope := sc.v } : Env).kindOf x = some .globalImplicit := by intro _; rfl) (hs : ∀ env : Env, starEach (e :: es) env = (false, eval e env) :: starEach es env := by intro _; rfl) (hp : ∀ env : Env, ((backTo pos (starEach es env)).any (·.1)) = false := by intro _; rfl) (hn : x ≠ ("__name__" : Str) := by decide) (h1 : (x == ("__debug__" : Str)) = false := by rfl) :
    DF M k W N sc (.Call (.Name x p) (e :: es) [] pos) (fCB g fs) := by
  obtain ⟨ta, pa, sa⟩ := ha
  exact ⟨_, fun X c => pe_callTy (hb.c X c.eK c.calm) (gl_of c hg) (by rw [c.em]; exact hm) hv (pa X c) hn h1 (hs X.env) (hp X.env), sf_cb hb.d sa⟩
theorem de_ix (ha : DE M k W N sc a fa) (hb : DE M k W N sc b fb) (hs : PlainIx b := by exact fun _ _ => rfl) : DE M k W N sc (.Subscript a b pos) (eOp ixD fa fb) := by
  obtain ⟨ta, pa, sa⟩ := ha
  obtain ⟨tb, pb, sb⟩ := hb
  exact ⟨_, fun X c => pe_ix (r := rIxD M.K) (by rw [← c.eK]; exact ix_any) (pa X c) (pb X c) hs, se_op d_ix sa sb⟩
theorem do_no : DO M k W N sc none oNo := ⟨_, fun X c => po_none, so_no⟩
theorem do_at (h : DE M k W N sc e f) : DO M k W N sc (some e) (oAt f) := by
  obtain ⟨te, pe, se⟩ := h
  exact ⟨_, fun X c => po_some (pe X c), so_at se⟩
theorem df_cutL {lo hi : Option Expr} {fl fh : EO} {p2 : Pos} (h : DE M k W N sc e f) (hl : DO M k W N sc lo fl) (hh : DO M k W N sc hi fh) : DF M k W N sc (.Subscript e (.Slice lo hi none p2) pos) (fCutL f fl fh) := by
  obtain ⟨te, pe, se⟩ := h
  obtain ⟨tl, pl, sl⟩ := hl
  obtain ⟨th, ph, sh⟩ := hh
  exact ⟨_, fun X c => pe_slice (r := rSlL M.K) (by rw [← c.eK]; exact sl_list) (pe X c) (pl X c) (ph X c), sf_cutL se sl sh⟩
theorem de_pop {apos cpos : Pos} {o : Expr} {fo : EE} (ho : DE M k W N sc o fo) (hb : ∀ env : Env, attributeBase o "pop" env (eval o env) = eval o env := by intro _; rfl) (hl : (apos.endLine == cpos.line) = true := by rfl) :
    DE M k W N sc (.Call (.Attribute o "pop" apos) [] [] cpos) (ePop fo) := by
  obtain ⟨to, po, so⟩ := ho
  exact ⟨_, fun X c => by have z := pe_bm0 (cpos := cpos) (apos := apos) PySem.F.plainAttrs_list PySem.F.slot_list_pop PySem.F.type_list_pop mt_pop (po X c) (hb X.env) hl; rw [c.eK] at z; exact z, se_pop so⟩
end
end DS
namespace DS
open PySem PySem.Spec PyProof.Rows L2
section
variable {M : Mo} {k : Nat} {W : WX} {N : List Str} {sc : Sc}
variable {e a b c : Expr} {es : List Expr} {f fa fb fc : EE} {fs fr : EA} {t t2 : ET} {pos p px py pz pt : Pos} {x y z : Str}
theorem wipe_get (σ : L2.St) (i : Nat) : ∀ vs : List Nat, (L2.wipe σ vs)[i]? = if i ∈ vs then (σ[i]?).map (fun _ => none) else σ[i]?
  | [] => by simp [L2.wipe]
  | v :: vs => by
    show ((L2.wipe σ vs).set v none)[i]? = _
    rw [List.getElem?_set]
    by_cases h : v = i
    · subst h
      have hm : v ∈ v :: vs := by simp
      rw [if_pos rfl, L2.wipe_length, if_pos hm]
      by_cases hl : v < σ.length
      · rw [if_pos hl, List.getElem?_eq_getElem hl]; rfl
      · rw [if_neg hl, List.getElem?_eq_none (by omega)]; rfl
    · rw [if_neg h, wipe_get σ i vs]
      have h2 : ¬ i = v := fun q => h q.symm
      by_cases hm : i ∈ vs
      · rw [if_pos hm, if_pos (by simp [hm])]
      · rw [if_neg hm, if_neg (by simp [h2, hm])]
theorem wipe_set (σ : L2.St) {i : Nat} {vs : List Nat} {o : Option V} (h : i ∈ vs) : L2.wipe (σ.set i o) vs = L2.wipe σ vs := by
  apply List.ext_getElem?
  intro j
  rw [wipe_get, wipe_get]
  by_cases hj : j ∈ vs
  · rw [if_pos hj, if_pos hj, List.getElem?_set]
    by_cases e : i = j
    · subst e
      rw [if_pos rfl]
      by_cases hl : i < σ.length
      · rw [if_pos hl, List.getElem?_eq_getElem hl]; rfl
      · rw [if_neg hl, List.getElem?_eq_none (by omega)]
    · rw [if_neg e]
  · rw [if_neg hj, if_neg hj, List.getElem?_set_ne (fun z => hj (by rw [← z]; exact h))]
theorem wipe_wipe (σ : L2.St) (vs : List Nat) : L2.wipe (L2.wipe σ vs) vs = L2.wipe σ vs := by
  apply List.ext_getElem?
  intro j
  rw [wipe_get, wipe_get]
  by_cases hj : j ∈ vs
  · rw [if_pos hj, if_pos hj]
    cases σ[j]? <;> rfl
  · rw [if_neg hj, if_neg hj]
theorem Keeps.wipes {g : TG} {vs : List Nat} (h : Keeps g vs) : Wipes g vs := by
  intro x σ H Q q
  have z := h x (L2.wipe σ vs) H Q q
  rw [wipe_wipe] at z
  exact z
theorem keeps_name {i : Nat} {vs : List Nat} (h : i ∈ vs) : Keeps (gName i) vs := fun x σ H Q q => ⟨wipe_set σ h, q⟩
theorem dg_name {vs : List Nat} (i : Nat) (hN : N[i]? = some x) (hl : Loc sc.v x) (ho : Loc sc.o x) (hv : i ∈ vs := by decide) : DG M k W N sc vs (.Name x pos) (gNameD i) :=
  ⟨_, fun X c => pg_name (i := i) (by rw [c.eN]; exact c.nd) (by rw [c.eN]; exact hN) (by rw [c.es]; exact hl) (by rw [c.es]; exact c.fn x ho), sg_name, keeps_name hv⟩
def KeepsL (g : TGs) (vs : List Nat) : Prop := ∀ xs σ H (Q : L2.St → Hp → Prop), g xs σ H Q → g xs σ H fun σ2 H2 => L2.wipe σ2 vs = L2.wipe σ vs ∧ Q σ2 H2
def DGs (M : Mo) (k : Nat) (W : WX) (N : List Str) (sc : Sc) (vs : List Nat) (tgs : List Expr) (fs : List (D → SS)) : Prop := ∃ te, (∀ X, CK M k W N sc X → PGs X tgs te) ∧ SGs M.G te fs ∧ KeepsL te vs
def TG.up (g : TG) : Prop := ∀ x σ H (Q Q' : L2.St → Hp → Prop), (∀ σ H, Q σ H → Q' σ H) → g x σ H Q → g x σ H Q'
theorem dgs_nil {vs : List Nat} : DGs M k W N sc vs [] [] := ⟨_, fun X c => pgs_nil, SGs.nil, fun xs σ H Q q => ⟨q.1, rfl, q.2⟩⟩
theorem dgs_name {vs : List Nat} {gs : List (D → SS)} (i : Nat) (hN : N[i]? = some x) (hl : Loc sc.v x) (ho : Loc sc.o x) (hr : DGs M k W N sc vs es gs) (hv : i ∈ vs := by decide) (hs : ∀ env : Env, (assignEach (.Name x pos :: es) env).map (·.2) = assign (.Name x pos) env :: (assignEach es env).map (·.2) := by intro _; rfl) :
    DGs M k W N sc vs (.Name x pos :: es) (gNameD i :: gs) := by
  obtain ⟨tr, pr, sr, kr⟩ := hr
  obtain ⟨tn, pn, sn, kn⟩ := dg_name (M := M) (k := k) (W := W) (pos := pos) (vs := vs) i hN hl ho hv
  refine ⟨gCons (gName i) tr, fun X c => pgs_cons (pg_name (i := i) (by rw [c.eN]; exact c.nd) (by rw [c.eN]; exact hN) (by rw [c.es]; exact hl) (by rw [c.es]; exact c.fn x ho)) (pr X c) (hs X.env), SGs.cons sg_name sr, fun xs σ H Q q => ?_⟩
  obtain ⟨v, r, rfl, q⟩ := q
  refine ⟨v, r, rfl, ?_⟩
  have z := kr r _ H Q (show tr r (σ.set i (some v)) H Q from q)
  rw [wipe_set σ hv] at z
  exact z
/-- a tuple among targets -/
theorem dg_tup {vs : List Nat} {gs : List (D → SS)} {n kk : Nat} (h : DGs M k W N sc vs es gs) (hn : gs.length = n := by rfl) (ha : ∀ env : Env, (assignEach es env).length = n := by intro _; rfl) (hf : ∀ env : Env, (assignEach es env).findIdx? (·.1) = none := by intro _; rfl) :
    DG M k W N sc vs (.Tuple es kk pos) (gTupD gs) := by
  obtain ⟨te, pe, se, ke⟩ := h
  refine ⟨gTup M.K n te, fun X c => ?_, sg_tup se hn, fun v σ H Q q => ?_⟩
  · have z := pg_tup (pos := pos) (k := kk) c.calm (pe X c) (ha X.env) (hf X.env)
    rw [c.eK] at z
    exact z
  · obtain ⟨aa, xs, h1, h2, h3, h4⟩ := q
    exact ⟨aa, xs, h1, h2, h3, ke xs σ H Q h4⟩
theorem di_seq {tg : Expr} (h : DE M k W N sc e f) : DI M k W N sc tg e (iSeq f) := by
  obtain ⟨te, pe, se⟩ := h
  exact ⟨tSeqI M.K te, fun X c => by have z := pi_seqI (tg := tg) (pe X c); rw [c.eK] at z; exact z, si_seq se⟩
theorem di_rng1 {tg : Expr} (hm : M.mg "range" = none) (h : DA M k W N sc [a] fs) (hg : ∀ env : Env, ({ env with scope := sc.v } : Env).kindOf "range" = some .globalImplicit := by intro _; rfl) (hs : ∀ env : Env, starEach [a] env = [(false, eval a env)] := by intro _; rfl) :
    DI M k W N sc tg (.Call (.Name "range" p) [a] [] pos) (iRngN 1 fs) := by
  obtain ⟨ta, pa, sa⟩ := h
  exact ⟨_, fun X c => pi_range1 (gl_of c hg) (by rw [c.em]; exact hm) (pa X c) (hs X.env), si_rng1 sa⟩
theorem di_rng3 {tg : Expr} (hm : M.mg "range" = none) (h : DA M k W N sc [a, b, c] fs) (hg : ∀ env : Env, ({ env with scope := sc.v } : Env).kindOf "range" = some .globalImplicit := by intro _; rfl) (hs : ∀ env : Env, starEach [a, b, c] env = (false, eval a env) :: starEach [b, c] env := by intro _; rfl) (hp : ∀ env : Env, ((backTo pos (starEach [b, c] env)).any (·.1)) = false := by intro _; rfl) :
    DI M k W N sc tg (.Call (.Name "range" p) [a, b, c] [] pos) (iRngN 3 fs) := by
  obtain ⟨ta, pa, sa⟩ := h
  exact ⟨_, fun X c => pi_range3 (gl_of c hg) (by rw [c.em]; exact hm) (pa X c) (hs X.env) (hp X.env), si_rng3 sa⟩
theorem di_enu {elts : List Expr} {kk : Nat} {tpos : Pos} (hm : M.mg "enumerate" = none) (h : DE M k W N sc e f) (hg : ∀ env : Env, ({ env with scope := sc.v } : Env).kindOf "enumerate" = some .globalImplicit := by intro _; rfl) (hs : ∀ env : Env, starEach [e] env = [(false, eval e env)] := by intro _; rfl) :
    DI M k W N sc (.Tuple elts kk tpos) (.Call (.Name "enumerate" p) [e] [] pos) (iEnu f) := by
  obtain ⟨te, pe, se⟩ := h
  refine ⟨tEnuI M.K te, fun X c => ?_, si_enu se⟩
  have h1 : PA X [e] (tCons te tNil) := pa_cons (pe X c) pa_nil (by rw [hs]; rfl)
  have z1 := pi_enum (p := p) (pos := pos) (tpos := tpos) (elts := elts) (kk := kk) (gl_of c hg) (by rw [c.em]; exact hm) h1 (hs X.env)
  have z2 := pi_enumT (p := p) (pos := pos) (tpos := tpos) (elts := elts) (kk := kk) (gl_of c hg) (by rw [c.em]; exact hm) h1 (hs X.env)
  have z := or_pi z1 z2
  rw [c.eK] at z
  exact z
theorem di_zip {elts : List Expr} {kk : Nat} {tpos : Pos} (hm : M.mg "zip" = none) (h : DA M k W N sc [a, b] fs) (hg : ∀ env : Env, ({ env with scope := sc.v } : Env).kindOf "zip" = some .globalImplicit := by intro _; rfl) (hs : ∀ env : Env, starEach [a, b] env = (false, eval a env) :: starEach [b] env := by intro _; rfl) (hp : ∀ env : Env, ((backTo pos (starEach [b] env)).any (·.1)) = false := by intro _; rfl) :
    DI M k W N sc (.Tuple elts kk tpos) (.Call (.Name "zip" p) [a, b] [] pos) (iZip2 fs) := by
  obtain ⟨ta, pa, sa⟩ := h
  refine ⟨RZ.iZipA M.K ta, fun X c => ?_, si_zip sa⟩
  have z := RZ.pi_zipA (p := p) (pos := pos) (tpos := tpos) (elts := elts) (kk := kk) (gl_of c hg) (by rw [c.em]; exact hm) (pa X c) (hs X.env) (hp X.env)
  rw [c.eK] at z
  exact z
theorem ck_blk {X : Cx} {scope : Scope} {s : Shared} {H : Hp} {C : Addr} {cl : List (Str × Addr)} {fp : List Addr} (c : CK M k W N sc X) : CK M k WF N (sc.sub scope) (X.blk s H scope (compEnvC scope cl C X.env) fp) where
  eP := c.eP
  ew := c.ew
  eK := c.eK
  em := c.em
  eb := c.eb
  eN := c.eN
  es := by
    show relabel scope X.env = relab sc.v scope
    rw [← c.es]
    rfl
  calm := c.calm
  rm := c.rm
  nd := c.nd
  fn := fun x h => by
    rcases h with h | h
    · right
      show (relab sc.v scope).names.lookup x = _
      have z := lookup_relabel_local (env := X.env) h
      rw [← c.es]
      exact z
    · left
      show (scope.names.lookup x == some .cell) = true
      rw [h]
      rfl
  pass := fun σ pins H s e s' I h => by
    obtain ⟨_, _, _, _, _, _, _, _, _, _, _, _, z⟩ := h
    exact z.elim
  la := c.la
  gd := c.gd
  ge := c.ge
def DTs (M : Mo) (k : Nat) (W : WX) (N : List Str) (sc : Sc) (es : List Expr) (f : ET) : Prop := ∃ te, (∀ X, CK M k W N sc X → PTs X es te) ∧ ST M.G (EW W) te f
theorem dts_nil : DTs M k W N sc [] eYes := ⟨_, fun X c => pts_nil, st_yes⟩
theorem df_lc {elt tg iter : Expr} {ifs : List Expr} {scope : Scope} (own : List (Str × Nat)) {fi : EI} {fg : D → SS} (hi : DI M k W N sc tg iter fi) (hb : BlkOk N sc.v scope own) (hg : DG M k WF N (sc.sub scope) (own.map (·.2)) tg fg) (ht : DTs M k WF N (sc.sub scope) ifs t) (he : DE M k WF N (sc.sub scope) elt f)
    (hs : ∀ (env : Env) (x : Value), foldedSetIterable iter env x = pure x := by intro _ _; rfl) : DF M k W N sc (.ListComp elt [⟨tg, iter, ifs, 0⟩] scope pos) (fLc fi fg t f (own.map (·.2))) := by
  obtain ⟨ti, pi, si⟩ := hi
  obtain ⟨tg, pg, sg, kg⟩ := hg
  obtain ⟨tt, pt, st⟩ := ht
  obtain ⟨te, pe, se⟩ := he
  exact ⟨_, fun X c => pe_lc (own := own) c.calm (by rw [c.eN]; exact c.nd) (pi X c) (by rw [c.eN, c.es]; exact hb) (fun s H C cl fp => pg _ (ck_blk c)) (fun s H C cl fp => pt _ (ck_blk c)) (fun s H C cl fp => pe _ (ck_blk c)) (hs X.env), sf_lc si sg kg.wipes st se⟩
theorem d1_asg {tg : Expr} {vs : List Nat} {fg : D → SS} (he : DE M k W N sc e f) (hg : DG M k W N sc vs tg fg) (h1 : ∀ env : Env, swapsWithSole [tg] e pos.line { env with scope := sc.v } = pure false := by intro _; rfl) (h2 : ∀ env : Env, swappedStores [tg] e { env with scope := sc.v } = pure none := by intro _; rfl)
    (h3 : ∀ env : Env, (assignEach [tg] env).map (·.2) = [assign tg env] := by intro _; rfl) : D1 M k W N sc (.Assign [tg] e pos) (sAsg f fg) := by
  obtain ⟨te, pe, se⟩ := he
  obtain ⟨tg, pg, sg, _⟩ := hg
  exact ⟨_, fun X c => ps_asg (pe X c.toCK) (pg X c.toCK) (by rw [env_eta c.es]; exact h1 X.env) (by rw [env_eta c.es]; exact h2 X.env) (h3 X.env), sd_asg se sg⟩
theorem d1_set (i : Nat) (hN : N[i]? = some x) (hl : Loc sc.v x) (ho : Loc sc.o x) (he : DE M k W N sc e f) (h1 : ∀ env : Env, swapsWithSole [.Name x px] e pos.line env = pure false := by intro _; rfl) (h2 : ∀ env : Env, swappedStores [.Name x px] e env = pure none := by intro _; rfl)
    (h3 : ∀ env : Env, (assignEach [.Name x px] env).map (·.2) = [assign (.Name x px) env] := by intro _; rfl) : D1 M k W N sc (.Assign [.Name x px] e pos) (sSet i f) := by
  obtain ⟨te, pe, se⟩ := he
  exact ⟨_, fun X c => ps_asg (pe X c.toCK) (pg_name (i := i) (by rw [c.eN]; exact c.nd) (by rw [c.eN]; exact hN) (by rw [c.es]; exact hl) (by rw [c.es]; exact c.fn x ho)) (h1 X.env) (h2 X.env) (h3 X.env), sd_set se⟩
theorem sd_of_lc {wi : TI} {g : TG} {tt : TT} {te : TE} {vs : List Nat} {i : Nat} {fl : EA} (h : SF M.G (EW W) (tLc wi g tt te vs) fl) (hnd : Bool) : SD M.G W (tAsg (tLc wi g tt te vs) (gName i)) (sSet i (if hnd then eHnd fl else eFz fl)) := by
  cases hnd with
  | true => exact sd_set (se_hnd h)
  | false => exact sd_set (se_fz h)
/-- x = [..]: kept as it is (hnd false), or a list that may change -/
theorem d1_setLc {elt tg iter : Expr} {ifs : List Expr} {scope : Scope} (hnd : Bool) (i : Nat) (hN : N[i]? = some x) (hl : sc.v.names.lookup x = some .local) (own : List (Str × Nat)) {fi : EI} {fg : D → SS} (hi : DI M k W N sc tg iter fi) (hb : BlkOk N sc.v scope own) (hg : DG M k WF N (sc.sub scope) (own.map (·.2)) tg fg) (ht : DTs M k WF N (sc.sub scope) ifs t) (he : DE M k WF N (sc.sub scope) elt f)
    (hsw : ∀ env : Env, swapsWith (.ListComp elt [⟨tg, iter, ifs, 0⟩] scope p) (some (.Name x px)) pos.line { env with scope := sc.v } = pure true) (hs : ∀ (env : Env) (x : Value), foldedSetIterable iter env x = pure x := by intro _ _; rfl) :
    D1 M k W N sc (.Assign [.Name x px] (.ListComp elt [⟨tg, iter, ifs, 0⟩] scope p) pos) (sSet i (if hnd then eHnd (fLc fi fg t f (own.map (·.2))) else eFz (fLc fi fg t f (own.map (·.2))))) := by
  obtain ⟨ti, pi, si⟩ := hi
  obtain ⟨tg, pg, sg, kg⟩ := hg
  obtain ⟨tt, pt, st⟩ := ht
  obtain ⟨te, pe, se⟩ := he
  refine ⟨_, fun X c => ps_setLc (i := i) (own := own) c.calm (by rw [c.eN]; exact c.nd) (by rw [c.eN]; exact hN) (by rw [c.es]; exact hl) (by rw [env_eta c.es]; exact hsw X.env) (pi X c.toCK) (by rw [c.eN, c.es]; exact hb) (fun s H C cl fp => pg _ (ck_blk c.toCK)) (fun s H C cl fp => pt _ (ck_blk c.toCK)) (fun s H C cl fp => pe _ (ck_blk c.toCK)) (hs X.env), sd_of_lc (sf_lc si sg kg.wipes st se) hnd⟩
theorem d1_setLcH {elt tg iter : Expr} {ifs : List Expr} {scope : Scope} (i : Nat) (hN : N[i]? = some x) (hl : sc.v.names.lookup x = some .local) (own : List (Str × Nat)) {fi : EI} {fg : D → SS} (hi : DI M k W N sc tg iter fi) (hb : BlkOk N sc.v scope own) (hg : DG M k WF N (sc.sub scope) (own.map (·.2)) tg fg) (ht : DTs M k WF N (sc.sub scope) ifs t) (he : DE M k WF N (sc.sub scope) elt f)
    (hsw : ∀ env : Env, swapsWith (.ListComp elt [⟨tg, iter, ifs, 0⟩] scope p) (some (.Name x px)) pos.line { env with scope := sc.v } = pure true := by intro _; rfl) (hs : ∀ (env : Env) (v : Value), foldedSetIterable iter env v = pure v := by intro _ _; rfl) :
    D1 M k W N sc (.Assign [.Name x px] (.ListComp elt [⟨tg, iter, ifs, 0⟩] scope p) pos) (sSet i (eHnd (fLc fi fg t f (own.map (·.2))))) := d1_setLc true i hN hl own hi hb hg ht he hsw hs
theorem d1_setLcF {elt tg iter : Expr} {ifs : List Expr} {scope : Scope} (i : Nat) (hN : N[i]? = some x) (hl : sc.v.names.lookup x = some .local) (own : List (Str × Nat)) {fi : EI} {fg : D → SS} (hi : DI M k W N sc tg iter fi) (hb : BlkOk N sc.v scope own) (hg : DG M k WF N (sc.sub scope) (own.map (·.2)) tg fg) (ht : DTs M k WF N (sc.sub scope) ifs t) (he : DE M k WF N (sc.sub scope) elt f)
    (hsw : ∀ env : Env, swapsWith (.ListComp elt [⟨tg, iter, ifs, 0⟩] scope p) (some (.Name x px)) pos.line { env with scope := sc.v } = pure true := by intro _; rfl) (hs : ∀ (env : Env) (v : Value), foldedSetIterable iter env v = pure v := by intro _ _; rfl) :
    D1 M k W N sc (.Assign [.Name x px] (.ListComp elt [⟨tg, iter, ifs, 0⟩] scope p) pos) (sSet i (eFz (fLc fi fg t f (own.map (·.2))))) := d1_setLc false i hN hl own hi hb hg ht he hsw hs
theorem d1_par2 {kt k2 : Nat} {pt2 : Pos} (i j : Nat) (hi : N[i]? = some x) (hj : N[j]? = some y) (hij : i ≠ j) (hx : sc.v.names.lookup x = some .local) (hy : sc.v.names.lookup y = some .local) (ha : DA M k W N sc [a, b] fs)
    (hw : ∀ env : Env, swappedStores [.Tuple [.Name x px, .Name y py] kt pt] (.Tuple [a, b] k2 pt2) { env with scope := sc.v } = pure (some [x, y]) := by intro _; rfl) (hs : ∀ env : Env, swapsWithSole [.Tuple [.Name x px, .Name y py] kt pt] (.Tuple [a, b] k2 pt2) pos.line env = pure false := by intro _; rfl) :
    D1 M k W N sc (.Assign [.Tuple [.Name x px, .Name y py] kt pt] (.Tuple [a, b] k2 pt2) pos) (sPar2 i j fs) := by
  obtain ⟨ta, pa, sa⟩ := ha
  exact ⟨_, fun X c => ps_par c.calm (by rw [c.eN]; exact c.nd) (by rw [c.eN]; exact hi) (by rw [c.eN]; exact hj) hij (by rw [c.es]; exact hx) (by rw [c.es]; exact hy) (pa X c.toCK) (by rw [env_eta c.es]; exact hw X.env) (hs X.env), sd_par2 sa⟩
theorem d1_par3 {kt k2 : Nat} {pt2 : Pos} (i j l : Nat) (hi : N[i]? = some x) (hj : N[j]? = some y) (hl : N[l]? = some z) (hij : i ≠ j) (hil : i ≠ l) (hjl : j ≠ l) (hx : sc.v.names.lookup x = some .local) (hy : sc.v.names.lookup y = some .local) (hz : sc.v.names.lookup z = some .local) (ha : DA M k W N sc [a, b, c] fs)
    (hw : ∀ env : Env, swappedStores [.Tuple [.Name x px, .Name y py, .Name z pz] kt pt] (.Tuple [a, b, c] k2 pt2) { env with scope := sc.v } = pure (some [x, y, z]) := by intro _; rfl) (hs : ∀ env : Env, swapsWithSole [.Tuple [.Name x px, .Name y py, .Name z pz] kt pt] (.Tuple [a, b, c] k2 pt2) pos.line env = pure false := by intro _; rfl) :
    D1 M k W N sc (.Assign [.Tuple [.Name x px, .Name y py, .Name z pz] kt pt] (.Tuple [a, b, c] k2 pt2) pos) (sPar3 i j l fs) := by
  obtain ⟨ta, pa, sa⟩ := ha
  exact ⟨_, fun X c => ps_par3 c.calm (by rw [c.eN]; exact c.nd) (by rw [c.eN]; exact hi) (by rw [c.eN]; exact hj) (by rw [c.eN]; exact hl) hij hil hjl (by rw [c.es]; exact hx) (by rw [c.es]; exact hy) (by rw [c.es]; exact hz) (pa X c.toCK) (by rw [env_eta c.es]; exact hw X.env) (hs X.env), sd_par3 sa⟩
/-- o[i] = e -/
theorem d1_put {o i : Expr} {fo fi : EE} (he : DE M k W N sc e f) (ho : DE M k W N sc o fo) (hi : DE M k W N sc i fi) (h1 : ∀ env : Env, swapsWithSole [.Subscript o i p] e pos.line env = pure false := by intro _; rfl) (h2 : ∀ env : Env, swappedStores [.Subscript o i p] e env = pure none := by intro _; rfl)
    (h3 : ∀ env : Env, (assignEach [.Subscript o i p] env).map (·.2) = [assign (.Subscript o i p) env] := by intro _; rfl)
    (h4 : ∀ (env : Env) (v : Value), assign (.Subscript o i p) env v = (do let ov ← holding [v] (eval o env); let iv ← holding [v, ov] (eval i env); standAt p; holding [v, ov, iv] (setItem ov iv v); release [v, ov, iv] []) := by intro _ _; rfl) :
    D1 M k W N sc (.Assign [.Subscript o i p] e pos) (sPut f fo fi) := by
  obtain ⟨te, pe, se⟩ := he
  obtain ⟨to, po, so⟩ := ho
  obtain ⟨ti, pi, si⟩ := hi
  exact ⟨_, fun X c => ps_asg (pe X c.toCK) (pg_sub (po X c.toCK) (pi X c.toCK) set_list (h4 X.env)) (h1 X.env) (h2 X.env) (h3 X.env), sd_put se so si⟩
theorem d1_ret (h : DE M k W N sc e f) : D1 M k W N sc (.Return (some e) pos) (sRet f) := by
  obtain ⟨te, pe, se⟩ := h
  exact ⟨_, fun X c => ps_ret (pe X c.toCK), sd_ret se⟩
theorem d1_expr (h : DE M k W N sc e f) (hs : ∀ env : Env, swapsWith e none pos.line env = pure false := by intro _; rfl) : D1 M k W N sc (.Expr e pos) (sDrop f) := by
  obtain ⟨te, pe, se⟩ := h
  exact ⟨_, fun X c => ps_expr (pe X c.toCK) (hs X.env), sd_drop se⟩
theorem d1_if {sa sb : List Stmt} {ga gb : SS} (hc : DT M k W N sc e t) (ha : DB M k W N sc sa ga) (hb : DB M k W N sc sb gb) : D1 M k W N sc (.If e sa sb pos) (sIf t ga gb) := by
  obtain ⟨tc, pc, s1⟩ := hc
  obtain ⟨ta, pa, s2⟩ := ha
  obtain ⟨tb, pb, s3⟩ := hb
  exact ⟨_, fun X c => ps_if (pc X c.toCK) (pa X c) (pb X c), sd_if s1 s2 s3⟩
theorem d1_while {sa : List Stmt} {ga : SS} (n : Nat) (hc : DT M k W N sc e t) (ha : DB M k W N sc sa ga) : D1 M k W N sc (.While e sa [] pos) (sLoop t ga n) := by
  obtain ⟨tc, pc, s1⟩ := hc
  obtain ⟨ta, pa, s2⟩ := ha
  exact ⟨_, fun X c => ps_while c.hp (pc X c.toCK) (pa X c), sd_while s1 s2⟩
theorem d1_for {tg iter : Expr} {vs : List Nat} {sa : List Stmt} {fi : EI} {fg : D → SS} {ga : SS} (hi : DI M k W N sc tg iter fi) (hg : DG M k W N sc vs tg fg) (ha : DB M k W N sc sa ga) (hs : ∀ (env : Env) (x : Value), foldedSetIterable iter env x = pure x := by intro _ _; rfl) : D1 M k W N sc (.For tg iter sa [] pos) (sFor fi fg ga) := by
  obtain ⟨ti, pi, s1⟩ := hi
  obtain ⟨tg, pg, s2, _⟩ := hg
  obtain ⟨ta, pa, s3⟩ := ha
  exact ⟨_, fun X c => ps_for c.hp c.calm (pi X c.toCK) (pg X c.toCK) (pa X c) (hs X.env), sd_for s1 s2 s3⟩
def sStk : SS := fun _ _ => .stk
theorem db_nil : DB M k W N sc [] sNext := ⟨_, fun X c => pss_nil, sd_next⟩
theorem db_one {st : Stmt} {g : SS} (h : D1 M k W N sc st g) : DB M k W N sc [st] g := by
  obtain ⟨ta, pa, sa⟩ := h
  exact ⟨_, fun X c => pss_one (pa X c), sa⟩
theorem db_cons {st : Stmt} {rest : List Stmt} {g g2 : SS} (h : D1 M k W N sc st g) (hr : DB M k W N sc rest g2) : DB M k W N sc (st :: rest) (sSeq g g2) := by
  obtain ⟨ta, pa, sa⟩ := h
  obtain ⟨tb, pb, sb⟩ := hr
  exact ⟨_, fun X c => pss_cons (pa X c) (pb X c), sd_seq sa sb⟩
theorem cs_def {P : Program} {T : List (Addr × Str)} {w : World} {K : PySem.W.Frag} {mg : Str → Option Value} {base : Heap} {N : List Str} {qual : Str} {sc : Scope} {f : Addr} {cd : Value} {A : Around} {outer : List Env} {s : Shared} {H : Hp} {E : XK} {k : Nat} (hnd : N.Nodup) (hr : Room k (A.deeper (envOfC qual sc s.heap.objs.size f cd))) :
    CS ⟨P, w, K, mg, base, T⟩ k (fun cls d _ H => E cls d H) N ⟨sc, sc, none, false, none⟩ (cxOf (L2.CX P w) P w K mg base N qual sc f cd A outer s H E) where
  eP := rfl
  ew := rfl
  eK := rfl
  em := rfl
  eb := rfl
  eN := rfl
  es := rfl
  calm := rfl
  rm := hr
  nd := hnd
  fn := fun _ _ => .inl rfl
  pass := fun σ => passAt (takes_of rfl rfl rfl rfl) σ
  la := fun _ _ _ z => nomatch z
  gd := fun z => nomatch z
  ge := fun _ _ _ z => nomatch z
  hp := passes_of rfl
  tk := takes_of rfl rfl rfl rfl
  sk := rfl
  frm := rfl
theorem fn_ok {qual : Str} {params : Arguments} {body : List Stmt} {dvs : List V} {kws : List (Str × V)} {fa : Addr} {fd : FuncData} {ps : List Str} {nl : Nat} {g : SS} {S0 : Scope} (F : FunD M.K x qual params body S0 dvs kws fa fd) (S : FnScope N ps S0) (hN : N.length = ps.length + nl) (hb : ∀ W, DB M k W N ⟨S0, S0, none, false, none⟩ body g) :
    FnOk M.P M.w M.K M.mg M.base (L2.CX M.P M.w) (k + 1) fa fd ps (spD M.G ps.length (fnD nl g)) := by
  refine F.ok S (fun vs H Q E h => h.1) fun cdv A outer s H vs Q E hr h => ?_
  obtain ⟨t, pt, st⟩ := hb (fun cls d _ H => E cls d H)
  refine ⟨t, pt _ (cs_def S.nd hr), ?_⟩
  obtain ⟨hl, w, sto, ds, rfl, rel, rs, q⟩ := h
  exact fnD_run (nl := nl) st (fun _ _ _ _ z => z) (by rw [hN, hl]) rel rs q
theorem fn_okL {qual : Str} {params : Arguments} {body : List Stmt} {dvs : List V} {kws : List (Str × V)} {fa : Addr} {fd : FuncData} {ps : List Str} {nl : Nat} {g : SS} {S0 : Scope} (F : FunD M.K x qual params body S0 dvs kws fa fd) (S : FnScope N ps S0) (hN : N.length = ps.length + nl) (hb : ∀ W, DB M k W N ⟨S0, S0, none, false, none⟩ body g) :
    FnOk M.P M.w M.K M.mg M.base (L2.CX M.P M.w) (k + 1) fa fd ps (spF M.G ps.length (fnL nl g)) := by
  refine F.ok S (fun vs H Q E h => h.1) fun cdv A outer s H vs Q E hr h => ?_
  obtain ⟨t, pt, st⟩ := hb (fun cls d _ H => E cls d H)
  refine ⟨t, pt _ (cs_def S.nd hr), ?_⟩
  obtain ⟨hl, w, sto, ds, rfl, rel, rs, q⟩ := h
  exact fnL_run (nl := nl) st (fun _ _ _ _ z => z) (by rw [hN, hl]) rel rs q
def eCalK (np nk n : Nat) (ff : FF) (fa fb : EA) : EE := fun sd st => (fa sd st).bind fun ds st1 => (fb sd st1).bind fun es st2 => if ds.length = np ∧ es.length = nk then (callD n ff st2 (ds ++ es)).noex else .stk
end
end DS
namespace DS
open PySem PySem.Spec PyProof.Rows L2
theorem reps_ints {G : Md} {I : Hp} {ph : List Addr} : ∀ ns : List Int, Reps G I ph (ns.map V.int) (ns.map D.int)
  | [] => Reps.nil
  | n :: ns => Reps.cons (.int n) (reps_ints ns)
theorem glb_int {M : Mo} {x : Str} {i : Int} (h : ∃ t, M.mg x = some (.int i t)) : Glb M x (.int i) := by
  obtain ⟨t, h⟩ := h
  exact ⟨.int i, _, h, ⟨t, rfl⟩, fun _ _ => .int i⟩
theorem glb_tup {M : Mo} {x : Str} (ns : List Int) (h : M.mg x = some (.ref (He.ga M.K x))) (ht : He.tupB M.K x (ns.map He.Dv.int) = true) : Glb M x (.tup (ns.map D.int)) := by
  refine ⟨.ref (He.ga M.K x), _, h, rfl, fun I ph => ?_⟩
  have z := He.tupB_ok ht I
  have e : (ns.map He.Dv.int).map (He.Dv.v M.K) = ns.map V.int := by
    rw [List.map_map]
    rfl
  rw [e] at z
  exact Rep.tup' z (reps_ints ns)
end DS
namespace DS
open PySem PySem.Spec PyProof.Rows L2
def tget {a : Type} : List (Str × a) → Str → Option a
  | [], _ => none
  | (y, b) :: r, x => if y = x then some b else tget r x
theorem tget_at {a : Type} {x : Str} {b : a} : ∀ {l : List (Str × a)}, tget l x = some b → ∃ i : Nat, l[i]? = some (x, b)
  | [], h => by cases h
  | (y, c) :: r, h => by
    unfold tget at h
    by_cases e : y = x
    · rw [if_pos e] at h
      cases h
      exact ⟨0, by rw [e]; rfl⟩
    · rw [if_neg e] at h
      obtain ⟨i, q⟩ := tget_at h
      exact ⟨i + 1, q⟩
theorem tget_mem {a : Type} {x : Str} {b : a} {l : List (Str × a)} (h : tget l x = some b) : (x, b) ∈ l := by
  obtain ⟨i, q⟩ := tget_at h
  exact List.mem_of_getElem? q
def atD (f : Str) (st : Sto) : D → Option D
  | .obj _ fs => tget fs f
  | .hnd i => match st[i]? with
    | some (.ob _ _ fs) => match tget fs f with
      | some (some d) => some d
      | _ => none
    | _ => none
  | _ => none
def rSl (K : PySem.W.Frag) (f : Str) : V → Hp → VK → Prop := fun x H1 Q => ∃ a C dx p vs i v, x = .ref a ∧ SlX.Slt H1 a C dx vs ∧ SlX.SCls K C ∧ SlX.Slot1 K C f p i ∧ vs[i]? = some (some v) ∧ Q v H1
section
variable {G : Md} {w : Wd} {st : Sto}
theorem obj_rep {v : V} {c : Str} {fs : List (Str × D)} (rel : Rel G w st) (h : Rep G w.I w.ph v (.obj c fs)) : ∃ a C dx vs, v = .ref a ∧ G.mg c = some (.ref C) ∧ SObj G C (fs.map (·.1)) ∧ SlX.Slt w.H a C dx vs ∧
    ∀ (i : Nat) q, fs[i]? = some q → ∃ u, vs[i]? = some (some u) ∧ Rep G w.I w.ph u q.2 := by
  cases h with
  | obj h1 h2 h3 h4 h5 h6 =>
    refine ⟨_, _, _, _, rfl, h1, h2, .inr ⟨rel.sub _ _ h3, rel.sub _ _ h4⟩, fun i q e => ?_⟩
    obtain ⟨u, hu⟩ := h5 i q e
    exact ⟨u, hu, h6 i u q hu e⟩
theorem ob_rep {v : V} {i j : Nat} {c : Str} {fs : List (Str × Option D)} (rel : Rel G w st) (h : Rep G w.I w.ph v (.hnd i)) (e : st[i]? = some (.ob j c fs)) : ∃ a, v = .ref a ∧ w.ph[i]? = some a ∧ ObOk G w.I w.H w.ph a j c fs := by
  obtain ⟨a, rfl, hi⟩ := h.hnd_inv
  exact ⟨a, rfl, hi, rel.cel i a _ hi e⟩
theorem name_at {a : Type} {l : List (Str × a)} {i : Nat} {x : Str} {b : a} (h : l[i]? = some (x, b)) : (l.map (·.1))[i]? = some x := by
  rw [List.getElem?_map, h]
  rfl
theorem un_sl {f : Str} : UnD G (rSl G.K f) (atD f) := by
  intro w st x dx d Q rel rx e k
  cases dx with
  | obj c fs =>
    obtain ⟨a, C, dx, vs, rfl, h1, h2, h3, h4⟩ := obj_rep rel rx
    obtain ⟨i, hi⟩ := tget_at (show tget fs f = some d from e)
    obtain ⟨p, hp⟩ := h2.2.2 i f (name_at hi)
    obtain ⟨u, hu, ru⟩ := h4 i _ hi
    exact ⟨a, C, dx, p, vs, i, u, rfl, h3, h2.1, hp, hu, k w u (Step.refl _) rel ru⟩
  | hnd j =>
    have e : (match st[j]? with
      | some (.ob _ _ fs) => (match tget fs f with
        | some (some d) => some d
        | _ => none)
      | _ => none) = some d := e
    cases q : st[j]? with
    | none => rw [q] at e; cases e
    | some c =>
      rw [q] at e
      cases c with
      | lst xs => cases e
      | dead => cases e
      | ob l c fs =>
        have e : (match tget fs f with
          | some (some d) => some d
          | _ => none) = some d := e
        cases q2 : tget fs f with
        | none => rw [q2] at e; cases e
        | some o =>
          rw [q2] at e
          cases o with
          | none => cases e
          | some d' =>
            cases e
            obtain ⟨a, rfl, hj, _, _, C, dx, vs, h1, h2, h3, h4, h5, h6, h7⟩ := ob_rep rel rx q
            obtain ⟨i, hi⟩ := tget_at q2
            obtain ⟨p, hp⟩ := h2.2.2 i f (name_at hi)
            obtain ⟨u, hu, ru⟩ := h7 i _ d hi rfl
            refine ⟨a, C, dx, p, vs, i, u, rfl, ?_, h2.1, hp, hu, k w u (Step.refl _) rel ru⟩
            rcases h4 with ⟨z1, _, z2⟩ | ⟨z1, z2⟩
            · exact .inl ⟨z1, z2⟩
            · exact .inr ⟨z1, z2⟩
  | _ => cases e
end
section
variable {M : Mo} {k : Nat} {W : WX} {N : List Str} {sc : Sc}
variable {e a b o : Expr} {es : List Expr} {f fa fb fo : EE} {fs fr : EA} {pos p apos : Pos} {x m : Str}
/-- e.x, a slot -/
theorem de_at (h : DE M k W N sc e f) (hb : ∀ env : Env, attributeBase e x env (eval e env) = eval e env := by intro _; rfl) : DE M k W N sc (.Attribute e x pos) (eUn (atD x) f) := by
  obtain ⟨te, pe, se⟩ := h
  refine ⟨tUn (rSl M.K x) te, fun X c => ?_, se_un un_sl se⟩
  have z := SlX.pe_sl (f := x) (pos := pos) (pe X c) (hb X.env)
  rw [c.eK] at z
  exact z
theorem run_fnS {X : Cx} {CX : CXT} {k : Nat} {g : Addr} {sp : Sp} {E : XK} {Q : VK} {us : List Value} {vs : List V} {pins : List (Addr × Obj)} {σ : L2.St} {H : Hp} {s : Shared} (F : FnR X.prog X.w X.K X.mg X.base CX k g sp) (hr : Room k X.A) (hx : PassesAt CX X σ E)
    (I : Inv X pins σ H s) (r : Vals vs us) (h : sp vs H Q E) : wpAny (model X.prog X.w) X.A (call (.ref g) us) (EP X pins σ Q) X.xe s := by
  refine wpAny_call (codeAny_mono (F X.A X.stack s H us vs Q E hr I.env0 r h) fun res s' hq => ?_)
  rcases res with e | fl
  · exact hx pins H s e s' I hq
  · cases fl with
    | ret u => exact I.after hq
    | _ => exact False.elim hq
/-- the def m of the class c -/
def HasM (M : Mo) (c m : Str) (j n : Nat) (ff : FF) : Prop := ∃ C g, M.mg c = some (.ref C) ∧ Meth M.K C m g ∧ FnR M.P M.w M.K M.mg M.base (L2.CX M.P M.w) j g (spD M.G n ff)
def tMe (M : Mo) (tbl : List (Str × FF)) (n : Nat) (E : L2.St → XK) (ta : TE) (t : TA) : TE := fun σ H Q => ta σ H fun x H1 => ∃ c ff C a dx vs, (c, ff) ∈ tbl ∧ M.mg c = some (.ref C) ∧ x = .ref a ∧ SlX.Slt H1 a C dx vs ∧ SlX.SCls M.K C ∧
  t σ H1 fun ws H2 => spD M.G n ff (x :: ws) H2 Q (E σ)
def eMe (tbl : List (Str × FF)) (n : Nat) (fo : EE) (fa : EA) : EE := fun sd st => (fo sd st).bind fun x st1 => match x with
  | .obj c fs => match tget tbl c with
    | some ff => (fa sd st1).bind fun ds st2 => callD n ff st2 (.obj c fs :: ds)
    | none => .stk
  | _ => .stk
theorem se_me {tbl : List (Str × FF)} {n : Nat} {E : L2.St → XK} {to : TE} {ta : TA} (ho : SE M.G E to fo) (ha : SA M.G E ta fs) : SE M.G E (tMe M tbl n E to ta) (eMe tbl n fo fs) := by
  intro w sv sd st Q rel sl h
  refine ho w sv sd st _ rel sl ((Post.bind h).imp ?_)
  rintro x _ ⟨w1, dx, st1, rfl, s1, r1, rx, h1⟩
  have h1 := h1.step anE s1
  cases dx with
  | obj c os =>
    replace h1 : Post M.G (RE M.G) w1 (match tget tbl c with
      | some ff => (fs sd st1).bind fun ds st2 => callD n ff st2 (.obj c os :: ds)
      | none => .stk) Q (E sv) := h1
    cases q : tget tbl c with
    | none => rw [q] at h1; exact h1.elim
    | some ff =>
      rw [q] at h1
      obtain ⟨a, C, dx, vs, rfl, m1, m2, m3, m4⟩ := obj_rep r1 rx
      refine ⟨c, ff, C, a, dx, vs, tget_mem q, m1, rfl, m3, m2.1, ?_⟩
      refine ha w1 sv sd st1 _ r1 (sl.step s1) ((Post.bind h1).imp ?_)
      rintro ws _ ⟨w2, ds, st2, rfl, s2, r2, rs, h2⟩
      exact callD_ok r2 (Reps.cons (Rep.step s2 rx) rs) (h2.step anE s2)
  | _ => exact h1.elim
/-- o.m(e, ..) -/
theorem de_meth {tbl : List (Str × FF)} {j n : Nat} (pl : Cx → Sem Bool) (ht : ∀ c ff, (c, ff) ∈ tbl → HasM M c m j n ff) (hj : j ≤ k) (ho : DE M k W N sc o fo) (ha : DA M k W N sc (e :: es) fs)
    (hs : ∀ env : Env, starEach (e :: es) env = (false, eval e env) :: starEach es env := by intro _; rfl) (hp : ∀ env : Env, (backTo pos (starEach es env)).any (·.1) = false := by intro _; rfl)
    (hc : ∀ X : Cx, eval (.Call (.Attribute o m apos) (e :: es) [] pos) X.env = (do
      let ov ← eval o X.env
      standAt apos.atName
      let (f, first) ← holding [ov] (getMethod ov m (pl X))
      callWith pos f first (backTo pos (starEach (e :: es) X.env)) (backToKw pos (keywordEach [] X.env))) := by intro _; rfl) : DE M k W N sc (.Call (.Attribute o m apos) (e :: es) [] pos) (eMe tbl n fo fs) := by
  obtain ⟨to, po, so⟩ := ho
  obtain ⟨ta, pa, sa⟩ := ha
  refine ⟨tMe M tbl n (EW W) to ta, fun X c => ⟨fun pins s σ H Q I h => ?_⟩, se_me so sa⟩
  have po := po X c
  have pa := pa X c
  have hc := hc X
  have hs := hs X.env
  have hp := hp X.env
  obtain ⟨eP, ew, eK, em, eb, eN, eS, ecalm, rm, nd, fn, pass, hla, hgd, hge⟩ := c
  refine PySem.W.methodCall_KW (pl := pl X) (thn (po.run pins s σ H _ I h) fun u s1 ⟨x, H1, I1, rx, c, ff, C, a, dx, vs, hm, hC, ex, hsl, hcl, q⟩ => ?_) hc
  obtain ⟨C', g, hC', hmt, F⟩ := ht c ff hm
  rw [hC] at hC'
  cases hC'
  cases X
  subst eP ew eK em eb
  subst ex
  obtain rfl : u = Value.ref a := rx
  refine SlX.getmethsl_ok I1 hsl hcl hmt ?_
  refine PySem.W.callWith_K (first := [.ref a]) (h₀ := M.base) I.ok.mod.kin hmt.kp (thn (pa.run pos pins s1 σ H1 _ I1 q) fun us s2 ⟨ws, H2, I2, r, q2⟩ => ⟨I2.kIn, ?_⟩) hs hp
  exact run_fnS (us := .ref a :: us) (vs := .ref a :: ws) F (rm.mono hj) (pass σ) I2 (.cons rfl r) q2
/-- o.m() -/
theorem de_meth0 {tbl : List (Str × FF)} {j n : Nat} (pl : Cx → Sem Bool) (ht : ∀ c ff, (c, ff) ∈ tbl → HasM M c m j n ff) (hj : j ≤ k) (ho : DE M k W N sc o fo)
    (hc : ∀ X : Cx, eval (.Call (.Attribute o m apos) [] [] pos) X.env = (do
      let ov ← eval o X.env
      standAt apos.atName
      let (f, first) ← holding [ov] (getMethod ov m (pl X))
      callWith pos f first (backTo pos (starEach [] X.env)) (backToKw pos (keywordEach [] X.env))) := by intro _; rfl) : DE M k W N sc (.Call (.Attribute o m apos) [] [] pos) (eMe tbl n fo aNil) := by
  obtain ⟨to, po, so⟩ := ho
  refine ⟨tMe M tbl n (EW W) to tNil, fun X c => ⟨fun pins s σ H Q I h => ?_⟩, se_me so sa_nil⟩
  have po := po X c
  have hc := hc X
  obtain ⟨eP, ew, eK, em, eb, eN, eS, ecalm, rm, nd, fn, pass, hla, hgd, hge⟩ := c
  refine PySem.W.methodCall_KW (pl := pl X) (thn (po.run pins s σ H _ I h) fun u s1 ⟨x, H1, I1, rx, c, ff, C, a, dx, vs, hm, hC, ex, hsl, hcl, q⟩ => ?_) hc
  obtain ⟨C', g, hC', hmt, F⟩ := ht c ff hm
  rw [hC] at hC'
  cases hC'
  cases X
  subst eP ew eK em eb
  subst ex
  obtain rfl : u = Value.ref a := rx
  refine SlX.getmethsl_ok I1 hsl hcl hmt ?_
  exact PySem.W.callWith_K0 (first := [.ref a]) I1.kIn hmt.kp (run_fnS (us := [.ref a]) (vs := [.ref a]) F (rm.mono hj) (pass σ) I1 (.cons rfl .nil) q)
end
end DS
namespace DS
open PySem PySem.Spec PyProof.Rows L2
section
variable {M : Mo} {k : Nat} {W : WX} {N : List Str} {sc : Sc}
variable {e a b o : Expr} {es : List Expr} {f fa fb fo : EE} {fs fr : EA} {pos p apos : Pos} {x m : Str}
def HasP (M : Mo) (c m : Str) (j : Nat) (ff : FF) : Prop := ∃ C q g, M.mg c = some (.ref C) ∧ PySem.W.findIn M.K (.ref C) m = some (some (.ref q)) ∧ PySem.W.specialIn M.K (.ref q) "__get__" = some (some (.builtin "property.__get__")) ∧
  PySem.W.takesIn M.K (.ref q) = some true ∧ (∃ rest, PySem.W.recIn M.K q "property" = some (.ref g :: rest)) ∧ FnR M.P M.w M.K M.mg M.base (L2.CX M.P M.w) j g (spD M.G 1 ff)
def tPr (M : Mo) (tbl : List (Str × FF)) (ta : TE) : TE := fun σ H Q => ta σ H fun x H1 => ∃ c ff C a dx vs, (c, ff) ∈ tbl ∧ M.mg c = some (.ref C) ∧ x = .ref a ∧ SlX.Slt H1 a C dx vs ∧ SlX.SCls M.K C ∧ spD M.G 1 ff [x] H1 Q (fun _ _ _ => False)
def ePr (tbl : List (Str × FF)) (fo : EE) : EE := fun sd st => (fo sd st).bind fun x st1 => match x with
  | .obj c fs => match tget tbl c with
    | some ff => (callD 1 ff st1 [.obj c fs]).noex
    | none => .stk
  | _ => .stk
theorem se_pr {tbl : List (Str × FF)} {E : L2.St → XK} {to : TE} (ho : SE M.G E to fo) : SE M.G E (tPr M tbl to) (ePr tbl fo) := by
  intro w sv sd st Q rel sl h
  refine ho w sv sd st _ rel sl ((Post.bind h).imp ?_)
  rintro x _ ⟨w1, dx, st1, rfl, s1, r1, rx, h1⟩
  have h1 := h1.step anE s1
  cases dx with
  | obj c os =>
    replace h1 : Post M.G (RE M.G) w1 (match tget tbl c with
      | some ff => (callD 1 ff st1 [.obj c os]).noex
      | none => .stk) Q (E sv) := h1
    cases q : tget tbl c with
    | none => rw [q] at h1; exact h1.elim
    | some ff =>
      rw [q] at h1
      obtain ⟨a, C, dx, vs, rfl, m1, m2, m3, m4⟩ := obj_rep r1 rx
      exact ⟨c, ff, C, a, dx, vs, tget_mem q, m1, rfl, m3, m2.1, callD_ok r1 (Reps.cons rx Reps.nil) (noex_post h1)⟩
  | _ => exact h1.elim
theorem de_prop {tbl : List (Str × FF)} {j : Nat} (ht : ∀ c ff, (c, ff) ∈ tbl → HasP M c x j ff) (hj : j + 1 ≤ k) (ho : DE M k W N sc e fo) (hb : ∀ env : Env, attributeBase e x env (eval e env) = eval e env := by intro _; rfl) :
    DE M k W N sc (.Attribute e x pos) (ePr tbl fo) := by
  obtain ⟨to, po, so⟩ := ho
  refine ⟨tPr M tbl to, fun X c => ⟨fun pins s σ H Q I h => ?_⟩, se_pr so⟩
  have po := po X c
  have hb := hb X.env
  obtain ⟨eP, ew, eK, em, eb, eN, eS, ecalm, rm, nd, fn, pass, hla, hgd, hge⟩ := c
  refine attr_of hb (thn (po.run pins s σ H _ I h) fun u s1 ⟨y, H1, I1, ry, c, ff, C, a, dx, vs, hm, hC, ex, hsl, hcl, q⟩ => ?_)
  obtain ⟨C', p', g, hC', h1, h2, h3, h4, F⟩ := ht c ff hm
  rw [hC] at hC'
  cases hC'
  cases X
  subst eP ew eK em eb
  subst ex
  obtain rfl : u = Value.ref a := ry
  refine SlX.getprop_sl I1 hsl hcl h1 h2 h3 h4 F (rm.mono hj) (fun H s e s' z => ?_) q
  obtain ⟨_, _, _, _, _, _, _, _, _, _, _, _, z⟩ := z
  exact z.elim
structure HasC (M : Mo) (c : Str) (ns : List Str) (j n : Nat) (ff : FF) : Prop where
  all : ∃ C g, M.mg c = some (.ref C) ∧ SObj M.G C ns ∧ Mk M.K C g ∧ FnR M.P M.w M.K M.mg M.base (L2.CX M.P M.w) j g (spD M.G n ff)
def tNew (M : Mo) (C : Addr) (n : Nat) (ff : FF) (E : L2.St → XK) (t : TA) : TE := fun σ H Q => t σ H fun vs H1 => ∀ x dx, H1 x = none → H1 dx = none → dx ≠ x →
  spD M.G n ff (.ref x :: vs) (upd (upd H1 dx (.own x)) x (.ins C dx [])) (fun v H2 => v = .non ∧ Q (.ref x) H2) (E σ)
/-- all slots are there -/
def allSet : List (Str × Option D) → Option (List (Str × D))
  | [] => some []
  | (x, some d) :: r => match allSet r with
    | some l => some ((x, d) :: l)
    | none => none
  | _ => none
def newD (c : Str) (st : Sto) : Res D → Res D
  | .ok .non [.ob 1 c' fs, .dead] => match allSet fs with
    | some l => if c' = c ∧ D.noHk l = true ∧ l.isEmpty = false then .ok (.obj c l) st else .stk
    | none => .stk
  | .ex e [_, _] => if e.noH then .ex e st else .stk
  | _ => .stk
def eNew (c : Str) (ns : List Str) (n : Nat) (ff : FF) (fa : EA) : EE := fun sd st => (fa sd st).bind fun ds st1 =>
  if ds.length + 1 = n ∧ D.noHs ds = true then newD c st1 (ff [.ob 1 c (ns.map fun x => (x, none)), .dead] (.hnd 0 :: ds)) else .stk
theorem allSet_at : ∀ {fs : List (Str × Option D)} {l : List (Str × D)}, allSet fs = some l → fs = l.map fun q => (q.1, some q.2)
  | [], l, h => by cases (show some [] = some l from h); rfl
  | (x, o) :: r, l, h => by
    cases o with
    | none => cases h
    | some d =>
      have h : (match allSet r with
        | some l => some ((x, d) :: l)
        | none => none) = some l := h
      cases q : allSet r with
      | none => rw [q] at h; cases h
      | some l' =>
        rw [q] at h
        cases h
        rw [allSet_at q]
        rfl
theorem ph_two {I H : Hp} {x dx : Addr} {w' : Wd} {s1 s2 : Cell} {G : Md} (s : Step ⟨I, [x, dx], H⟩ w') (r : Rel G w' [s1, s2]) : w'.ph = [x, dx] := by
  have l := r.len
  have p0 := s.px 0 x rfl
  have p1 := s.px 1 dx rfl
  cases q : w'.ph with
  | nil => rw [q] at l; cases l
  | cons y t =>
    cases t with
    | nil => rw [q] at l; cases l
    | cons z u =>
      cases u with
      | cons _ _ => rw [q] at l; simp at l
      | nil =>
        rw [q] at p0 p1
        simp at p0 p1
        rw [p0, p1]
theorem new_back {G : Md} {w w' : Wd} {st st2 : Sto} {x dx C : Addr} {I2 : Hp} (rel : Rel G w st) (rw' : Rel G w' st2) (hx : w.H x = none) (hd : w.H dx = none) (s : Step ⟨w.I, [x, dx], upd (upd w.H dx (.own x)) x (.ins C dx [])⟩ w')
    (e1 : Evl.Ex w'.I I2) (e2 : ∀ a, a ≠ x → a ≠ dx → I2 a = w'.I a) (e3 : Evl.Ex I2 w'.H) : Step w ⟨I2, w.ph, w'.H⟩ ∧ Rel G ⟨I2, w.ph, w'.H⟩ st := by
  have old : ∀ a, a ≠ x → a ≠ dx → upd (upd w.H dx (.own x)) x (.ins C dx []) a = w.H a := fun a h1 h2 => by rw [upd_ne h1, upd_ne h2]
  have nx : ∀ a o, w.H a = some o → a ≠ x ∧ a ≠ dx := fun a o h => ⟨ne_of_none h hx, ne_of_none h hd⟩
  have keep : ∀ a o, w.H a = some o → (∀ ps, o ≠ .tbl ps) → w'.H a = some o := fun a o h nt => by
    obtain ⟨h1, h2⟩ := nx a o h
    exact s.keep a o (by show upd _ _ _ a = _; rw [old a h1 h2]; exact h) (by simp [h1, h2]) nt
  have fresh : ∀ a o, w.H a = some o → (∀ ps, o ≠ .tbl ps) → w.I a = none → I2 a = none := fun a o h hnt h0 => by
    obtain ⟨h1, h2⟩ := nx a o h
    rw [e2 a h1 h2]
    cases q : w'.I a with
    | none => rfl
    | some u =>
      rcases s.newI a u q with z | z | z
      · rw [show (⟨w.I, [x, dx], upd (upd w.H dx (.own x)) x (.ins C dx [])⟩ : Wd).I a = w.I a from rfl, h0] at z; cases z
      · have z : Fr (upd (upd w.H dx (.own x)) x (.ins C dx [])) a := z
        exact ((z.eq (old a h1 h2).symm).no h hnt).elim
      · have z : a ∈ [x, dx] := z
        simp [h1, h2] at z
  have im : Evl.Ex w.I I2 := s.im.trans e1
  refine ⟨⟨im, Px.refl, fun a o h => ?_, fun _ h => .inl h, fun a o h _ nt => keep a o h nt, fun a h => ?_⟩, ⟨e3, rel.len, rel.nd, fun i a c hi hc => ?_, rw'.tab.sameH (fun _ => rfl) fun a ps k1 => ?_⟩⟩
  rotate_left 3
  · have mx : x ∈ w'.ph := s.px.mem (by simp)
    have md : dx ∈ w'.ph := s.px.mem (by simp)
    have k2 := e3 a _ k1
    by_cases h1 : a = x
    · rw [h1] at k2
      exact (rw'.kinds mx k2).1 ps rfl
    · by_cases h2 : a = dx
      · rw [h2] at k2
        exact (rw'.kinds md k2).1 ps rfl
      · have k1 : I2 a = some (.tbl ps) := k1
        rw [e2 a h1 h2] at k1
        exact rw'.tab.no a ps k1
  · by_cases h1 : a = x
    · rw [h1]; exact .inr (.inl (.inl hx))
    · by_cases h2 : a = dx
      · rw [h2]; exact .inr (.inl (.inl hd))
      · have h : I2 a = some o := h
        rw [e2 a h1 h2] at h
        rcases s.newI a o h with z | z | z
        · exact .inl z
        · have z : Fr (upd (upd w.H dx (.own x)) x (.ins C dx [])) a := z
          exact .inr (.inl (z.eq (old a h1 h2).symm))
        · have z : a ∈ [x, dx] := z
          simp [h1, h2] at z
  · by_cases h1 : a = x
    · rw [h1]; exact .inl hx
    · by_cases h2 : a = dx
      · rw [h2]; exact .inl hd
      · exact (s.live a h).eq (old a h1 h2).symm
  · have k := rel.cel i a c hi hc
    cases c with
    | lst xs =>
      obtain ⟨h0, us, h1, z⟩ := k
      exact ⟨fresh a _ h1 (by intro _ z; cases z) h0, us, keep _ _ h1 (by intro _ z; cases z), z.mono im Px.refl⟩
    | dead =>
      obtain ⟨o, h1, pl⟩ := k
      exact ⟨o, keep _ _ h1 pl.1, pl⟩
    | ob j c fs => exact ObOk.keep k im Px.refl fun b hb o' h1 _ h2 => ⟨keep _ _ h1 (rel.kinds hb h1).1, fresh _ _ h1 (rel.kinds hb h1).1 h2⟩
theorem rel_new {G : Md} {w : Wd} {st : Sto} {x dx C : Addr} {c : Str} {ns : List Str} (rel : Rel G w st) (hx : w.H x = none) (hd : w.H dx = none) (ne : dx ≠ x) (hm : G.mg c = some (.ref C)) (hs : SObj G C ns) :
    Rel G ⟨w.I, [x, dx], upd (upd w.H dx (.own x)) x (.ins C dx [])⟩ [.ob 1 c (ns.map fun y => (y, none)), .dead] := by
  have nx : ∀ a o, w.H a = some o → a ≠ x ∧ a ≠ dx := fun a o h => ⟨ne_of_none h hx, ne_of_none h hd⟩
  have hX : upd (upd w.H dx (.own x)) x (.ins C dx []) x = some (.ins C dx []) := upd_same
  have hD : upd (upd w.H dx (.own x)) x (.ins C dx []) dx = some (.own x) := by rw [upd_ne ne, upd_same]
  have hu : ∀ a, a ≠ x → a ≠ dx → upd (upd w.H dx (.own x)) x (.ins C dx []) a = w.H a := fun a h1 h2 => by rw [upd_ne h1, upd_ne h2]
  refine ⟨fun a o h => ?_, rfl, ?_, fun i a c' hi hc => ?_, ⟨fun p hp => ?_, rel.tab.no, fun j f c q hj => ?_⟩⟩
  rotate_left 4
  · have e2 := rel.tab.lam j f c q hj
    obtain ⟨n1, n2⟩ := nx _ _ e2
    exact (hu _ n1 n2).trans e2
  rotate_left 3
  · obtain ⟨ps, k2, k3, k4⟩ := rel.tab.at_ p hp
    obtain ⟨n1, n2⟩ := nx _ _ k2
    refine ⟨ps, (hu _ n1 n2).trans k2, k3, fun pos cv hc => ?_⟩
    obtain ⟨c, e1, e2⟩ := k4 pos cv hc
    obtain ⟨n1, n2⟩ := nx _ _ e2
    exact ⟨c, e1, (hu _ n1 n2).trans e2⟩
  · have h := rel.sub a o h
    obtain ⟨h1, h2⟩ := nx a o h
    show upd _ _ _ a = _
    rw [upd_ne h1, upd_ne h2]
    exact h
  · show [x, dx].Nodup
    simp [Ne.symm ne]
  · have hi : [x, dx][i]? = some a := hi
    match i, hi, hc with
    | 0, hi, hc =>
      simp at hi hc
      subst hi hc
      refine ⟨rel.noI hx, by simp, C, dx, [], hm, ?_, ne, .inl ⟨hX, hD, rfl⟩, rfl, rel.noI hd, fun i q d e1 e2 => ?_⟩
      · have e : (ns.map fun y => (y, (none : Option D))).map (·.1) = ns := by
          rw [List.map_map]
          exact List.map_id _
        rw [e]
        exact hs
      · rw [List.getElem?_map] at e1
        cases q1 : ns[i]? with
        | none => rw [q1] at e1; cases e1
        | some y =>
          rw [q1] at e1
          cases e1
          cases e2
    | 1, hi, hc =>
      simp at hi hc
      subst hi hc
      exact ⟨_, hD, ⟨fun _ z => (nomatch z), fun _ z => (nomatch z)⟩⟩
    | i + 2, hi, hc => simp at hi
theorem se_new {c : Str} {ns : List Str} {n : Nat} {ff : FF} {C : Addr} {E : L2.St → XK} {ta : TA} (hm : M.mg c = some (.ref C)) (hs : SObj M.G C ns) (ha : SA M.G E ta fs) : SE M.G E (tNew M C n ff E ta) (eNew c ns n ff fs) := by
  intro w sv sd st Q rel sl h
  refine ha w sv sd st _ rel sl ((Post.bind h).imp ?_)
  rintro vs _ ⟨w1, ds, st1, rfl, s1, r1, rs, h1⟩
  have h1 := h1.step anE s1
  intro x dx hx hd ne
  split at h1
  case isFalse => exact h1.elim
  rename_i hc
  refine ⟨by rw [List.length_cons, rs.1]; exact hc.1, _, _, .hnd 0 :: ds, rfl, rel_new r1 hx hd ne hm hs, Reps.cons (.hnd rfl) (rs.anyPh hc.2), ?_⟩
  cases q : ff [.ob 1 c (ns.map fun x => (x, none)), .dead] (.hnd 0 :: ds) with
  | stk => rw [q] at h1; exact h1.elim
  | ex e st' =>
    rw [q] at h1
    match st', h1 with
    | [], h1 => exact h1.elim
    | [_], h1 => exact h1.elim
    | _ :: _ :: _ :: _, h1 => exact h1.elim
    | [c1, c2], h1 =>
      replace h1 : Post M.G (RE M.G) w1 (if e.noH then .ex e st1 else .stk) Q (E sv) := h1
      split at h1
      case isFalse => exact h1.elim
      rename_i hn
      intro w' cls dd s r rx
      obtain ⟨s2, r2⟩ := new_back r1 r hx hd s (Evl.Ex.refl _) (fun _ _ _ => rfl) r.sub
      refine h1 ⟨w'.I, w1.ph, w'.H⟩ cls dd s2 r2 ⟨rx.1, ?_⟩
      have hx := rx.2
      cases z : e.arg with
      | none =>
        rw [z] at hx
        exact hx
      | some p =>
        rw [z] at hx
        obtain ⟨a, v, e1, e2, e3⟩ := hx
        unfold Exc.noH at hn
        rw [z] at hn
        exact ⟨a, v, e1, e2, e3.anyPh hn⟩
  | ok d st' =>
    rw [q] at h1
    unfold newD at h1
    split at h1
    case h_2 =>
      rename_i e1
      cases e1
    case h_3 => exact h1.elim
    rename_i c' os e1
    cases e1
    cases q2 : allSet os with
    | none => rw [q2] at h1; exact h1.elim
    | some l =>
      rw [q2] at h1
      replace h1 : Post M.G (RE M.G) w1 (if c' = c ∧ D.noHk l = true ∧ l.isEmpty = false then .ok (.obj c l) st1 else .stk) Q (E sv) := h1
      split at h1
      case isFalse => exact h1.elim
      rename_i hh
      obtain ⟨rfl, hn, hl⟩ := hh
      intro w' v s r rv
      have hp := ph_two s r
      obtain ⟨k0, _, C', dx', us, k1, k2, k3, k4, k5, k6, k7⟩ := r.cel 0 x _ (by rw [hp]; rfl) rfl
      have k1' : M.mg c' = some (.ref C') := k1
      rw [hm] at k1'
      cases k1'
      have hdx : dx' = dx := by
        rw [hp] at k5
        simp at k5
        exact k5.symm
      subst hdx
      have ho := allSet_at q2
      have at_ : ∀ (i : Nat) p, l[i]? = some p → ∃ u, us[i]? = some (some u) ∧ Rep M.G w'.I w'.ph u p.2 := fun i p e => k7 i (p.1, some p.2) p.2 (by rw [ho, List.getElem?_map, e]; rfl) rfl
      have k4' : w'.H x = some (SlX.SlO x C dx' us) ∧ w'.H dx' = some (.xd []) := by
        rcases k4 with ⟨_, _, z⟩ | z
        · exfalso
          cases l with
          | nil => cases hl
          | cons p l =>
            obtain ⟨u, hu, _⟩ := at_ 0 p rfl
            rw [z] at hu
            cases hu
        · exact z
      have xd : x ≠ dx' := Ne.symm ne
      have eD : Evl.Ex w'.I (upd w'.I dx' (.xd [])) := Evl.Ex.new k6
      have eX : Evl.Ex (upd w'.I dx' (.xd [])) (upd (upd w'.I dx' (.xd [])) x (SlX.SlO x C dx' us)) := Evl.Ex.new (by rw [upd_ne xd]; exact k0)
      have e3 : Evl.Ex (upd (upd w'.I dx' (.xd [])) x (SlX.SlO x C dx' us)) w'.H := fun a o e => by
        by_cases h1 : a = x
        · rw [h1, upd_same] at e
          rw [h1, ← e]
          exact k4'.1
        · by_cases h2 : a = dx'
          · rw [h2, upd_ne ne, upd_same] at e
            rw [h2, ← e]
            exact k4'.2
          · rw [upd_ne h1, upd_ne h2] at e
            exact r.sub a o e
      obtain ⟨s2, r2⟩ := new_back r1 r hx hd s (eD.trans eX) (fun a h1 h2 => by rw [upd_ne h1, upd_ne h2]) e3
      refine ⟨by cases rv; rfl, h1 ⟨_, w1.ph, w'.H⟩ (.ref x) s2 r2 ?_⟩
      have hnm : (os.map (·.1)) = l.map (·.1) := by
        rw [ho, List.map_map]
        rfl
      refine Rep.obj (vs := us) (dx := dx') hm (by rw [← hnm]; exact k2) upd_same (by show upd _ _ _ dx' = _; rw [upd_ne ne, upd_same]) (fun i p e => ?_) fun i u p e1 e2 => ?_
      · obtain ⟨u, hu, _⟩ := at_ i p e
        exact ⟨u, hu⟩
      · obtain ⟨u', hu, ru⟩ := at_ i p e2
        rw [e1] at hu
        cases hu
        exact (ru.anyPh (noHk_get hn e2)).mono (eD.trans eX) Px.refl
end
end DS
namespace DS
open PySem PySem.Spec PyProof.Rows L2
section
variable {M : Mo} {k : Nat} {W : WX} {N : List Str} {sc : Sc}
variable {e a b o : Expr} {es : List Expr} {f fa fb fo : EE} {fs fr : EA} {pos p apos : Pos} {x m : Str}
theorem mk_run {X : Cx} {CX : CXT} {k : Nat} {C g : Addr} {sp : Sp} {E : XK} {Q : VK} {us : List Value} {vs : List V} {pins : List (Addr × Obj)} {σ : L2.St} {H : Hp} {s : Shared} (mk : Mk X.K C g) (F : FnR X.prog X.w X.K X.mg X.base CX k g sp) (hr : Room (k + 1) X.A)
    (hx : PassesAt CX X σ E) (I : Inv X pins σ H s) (r : Vals vs us) (h : ∀ x dx, H x = none → H dx = none → dx ≠ x → sp (.ref x :: vs) (upd (upd H dx (.own x)) x (.ins C dx [])) (fun v H2 => v = .non ∧ Q (.ref x) H2) E) :
    wpAny (model X.prog X.w) X.A (call (.ref C) us) (EP X pins σ Q) X.xe s := by
  have top : H (s.heap.objs.size + 1) = none := I.hok.fresh (Nat.le_succ _)
  have low : H s.heap.objs.size = none := I.hok.fresh (Nat.le_refl _)
  have J := Inv.made (C := C) I
  refine wpAny_call (make_map (f := g) I.kIn mk.makes mk.init (beq_iff_eq.mp mk.fn) (codeAny_mono (F _ X.stack _ _ (Value.ref (s.heap.objs.size + 1) :: us) (V.ref (s.heap.objs.size + 1) :: vs) _ E (hr.make C us [])
    (J.env0.make C us []) (.cons rfl r) (h _ _ top low (Nat.ne_of_lt (Nat.lt_succ_self _)))) fun res s' hq => ?_))
  rcases res with e | fl
  · exact hx pins _ _ e s' J hq
  · cases fl with
    | ret u =>
      obtain ⟨v, H', I3, rv, ev, q⟩ := J.after hq
      subst ev
      exact ⟨rv, V.ref (s.heap.objs.size + 1), H', I3, rfl, q⟩
    | _ => exact False.elim hq
/-- C(e, ..) -/
theorem de_new {ns : List Str} {j n : Nat} {ff : FF} (h : HasC M x ns j n ff) (hj : j + 1 ≤ k) (ha : DA M k W N sc (e :: es) fs)
    (hg : ∀ env : Env, ({ env with scope := sc.v } : Env).kindOf x = some .globalImplicit := by intro _; rfl) (hs : ∀ env : Env, starEach (e :: es) env = (false, eval e env) :: starEach es env := by intro _; rfl)
    (hp : ∀ env : Env, ((backTo pos (starEach es env)).any (·.1)) = false := by intro _; rfl) (h1 : (x == ("__debug__" : Str)) = false := by rfl) :
    DE M k W N sc (.Call (.Name x p) (e :: es) [] pos) (eNew x ns n ff fs) := by
  obtain ⟨C, g, hm, so, mk, F⟩ := h.all
  obtain ⟨ta, pa, sa⟩ := ha
  refine ⟨tNew M C n ff (EW W) ta, fun X c => ⟨fun pins s σ H Q I h => ?_⟩, se_new hm so sa⟩
  have pa := pa X c
  have gl := gl_of c hg
  have hs := hs X.env
  have hp := hp X.env
  obtain ⟨eP, ew, eK, em, eb, eN, eS, ecalm, rm, nd, fn, pass, hla, hgd, hge⟩ := c
  cases X
  subst eP ew eK em eb
  refine wpAny_Call_Name_kw (ld_glob I gl hm ?_ h1)
  refine PySem.W.callWith_K (h₀ := M.base) I.ok.mod.kin mk.kp (thn (pa.run pos pins s σ H _ I h) fun us s1 ⟨vs, H1, I1, r, q⟩ => ⟨I1.kIn, ?_⟩) hs hp
  exact mk_run mk F (rm.mono hj) (pass σ) I1 r q
def OpS (X : Cx) (f : Value → Value → Sem Value) (r : L2.St → R2) : Prop :=
  ∀ (pins : List (Addr × Obj)) (s : Shared) (σ : L2.St) (H : Hp) (x y : V) (v u : Value) (Q : VK), Inv X pins σ H s → RelV x v → RelV y u → r σ x y H Q → wpAny (model X.prog X.w) X.A (f v u) (EP X pins σ Q) X.xe s
def tOS (r : L2.St → R2) (ta tb : TE) : TE := fun σ H Q => ta σ H fun x H1 => tb σ H1 fun y H2 => r σ x y H2 Q
theorem pe_opS {X : Cx} {op : Operator} {r : L2.St → R2} {ta tb : TE} (ho : OpS X (binaryOp op) r) (ha : PE X a ta) (hb : PE X b tb) : PE X (.BinOp a op b pos) (tOS r ta tb) :=
  ⟨fun pins s σ H Q I h => wpAny_BinOp (binT ha hb I h fun v u s2 x y H2 I2 rx ry q => ho pins s2 σ H2 x y v u Q I2 rx ry q)⟩
/-- the class c has its own def for the sign m -/
def HasB (M : Mo) (c m : Str) (j : Nat) (ff : FF) : Prop := ∃ C g, M.mg c = some (.ref C) ∧ PySem.W.selfFirst M.K C = true ∧ PySem.W.findIn M.K (.ref C) m = some (some (.ref g)) ∧ PySem.W.isFn M.K (.ref g) = true ∧ FnR M.P M.w M.K M.mg M.base (L2.CX M.P M.w) j g (spD M.G 2 ff)
/-- two objects of one class, or what the sign does otherwise -/
def rOB (M : Mo) (tbl : List (Str × FF)) (r0 : R2) (E : L2.St → XK) : L2.St → R2 := fun σ x y H Q => r0 x y H Q ∨ ∃ c ff C a dx vs b dy ws, (c, ff) ∈ tbl ∧ M.mg c = some (.ref C) ∧ x = .ref a ∧ y = .ref b ∧ SlX.Slt H a C dx vs ∧ SlX.Slt H b C dy ws ∧ SlX.SCls M.K C ∧
  spD M.G 2 ff [x, y] H Q (E σ)
def opB (tbl : List (Str × FF)) (g : Sto → D → D → Option D) (st : Sto) (x y : D) : Res D := match x, y with
  | .obj c fs, .obj c' fs' => if c = c' then (match tget tbl c with
    | some ff => callD 2 ff st [.obj c fs, .obj c' fs']
    | none => .stk) else .stk
  | x, y => Res.ofO (g st x y) st
def eOB (tbl : List (Str × FF)) (g : Sto → D → D → Option D) (fa fb : EE) : EE := fun sd st => (fa sd st).bind fun x st1 => (fb sd st1).bind fun y st2 => opB tbl g st2 x y
theorem opB_ok {tbl : List (Str × FF)} {g : Sto → D → D → Option D} {r0 : R2} {E : L2.St → XK} {w : Wd} {st : Sto} {x y : V} {dx dy : D} {σ : L2.St} {Q : VK} (hg : OpD M.G r0 g) (rel : Rel M.G w st) (rx : Rep M.G w.I w.ph x dx) (ry : Rep M.G w.I w.ph y dy)
    (h : Post M.G (RE M.G) w (opB tbl g st dx dy) Q (E σ)) : rOB M tbl r0 E σ x y w.H Q := by
  unfold opB at h
  split at h
  · rename_i c fs c' fs'
    split at h
    case isFalse => exact h.elim
    rename_i e
    subst e
    cases q : tget tbl c with
    | none => rw [q] at h; exact h.elim
    | some ff =>
      rw [q] at h
      obtain ⟨a, C, d1, vs, rfl, m1, m2, m3, m4⟩ := obj_rep rel rx
      obtain ⟨b, C', d2, ws, rfl, n1, n2, n3, n4⟩ := obj_rep rel ry
      rw [m1] at n1
      cases n1
      exact .inr ⟨c, ff, C, a, d1, vs, b, d2, ws, tget_mem q, m1, rfl, rfl, m3, n3, m2.1, callD_ok rel (Reps.cons rx (Reps.cons ry Reps.nil)) h⟩
  · obtain ⟨d, e, h3⟩ := ofO_post h
    exact .inl (hg w st x y dx dy d Q rel rx ry e h3)
theorem se_OB {tbl : List (Str × FF)} {g : Sto → D → D → Option D} {r0 : R2} {E : L2.St → XK} {ta tb : TE} (hg : OpD M.G r0 g) (ha : SE M.G E ta fa) (hb : SE M.G E tb fb) : SE M.G E (tOS (rOB M tbl r0 E) ta tb) (eOB tbl g fa fb) := by
  intro w sv sd st Q rel sl h
  refine ha w sv sd st _ rel sl ((Post.bind h).imp ?_)
  rintro x _ ⟨w1, dx, st1, rfl, s1, r1, rx, h1⟩
  refine hb w1 sv sd st1 _ r1 (sl.step s1) ((Post.bind (h1.step anE s1)).imp ?_)
  rintro y _ ⟨w2, dy, st2, rfl, s2, r2, ry, h2⟩
  exact opB_ok hg r2 (Rep.step s2 rx) ry (h2.step anE s2)
theorem de_opB {op : Operator} {tbl : List (Str × FF)} {j : Nat} {g : Sto → D → D → Option D} {r0 : R2} (ht : ∀ c ff, (c, ff) ∈ tbl → HasB M c (PySem.dunder op.info.2) j ff) (hj : j ≤ k) (ho : ∀ X, CK M k W N sc X → OpR X (binaryOp op) r0) (hg : OpD M.G r0 g)
    (ha : DE M k W N sc a fa) (hb : DE M k W N sc b fb) : DE M k W N sc (.BinOp a op b pos) (eOB tbl g fa fb) := by
  obtain ⟨ta, pa, sa⟩ := ha
  obtain ⟨tb, pb, sb⟩ := hb
  refine ⟨tOS (rOB M tbl r0 (EW W)) ta tb, fun X c => pe_opS (fun pins s σ H x y v u Q I rx ry h => ?_) (pa X c) (pb X c), se_OB hg sa sb⟩
  rcases h with h | ⟨c', ff, C, aa, dx, vs, bb, dy, ws, hm, hC, ex, ey, hx, hy, hc, q⟩
  · exact ho X c pins s σ H x y v u Q I rx ry h
  · obtain ⟨C', g', hC', h1, h2, h3, F⟩ := ht c' ff hm
    rw [hC] at hC'
    cases hC'
    obtain ⟨eP, ew, eK, em, eb, eN, eS, ecalm, rm, nd, fn, pass, hla, hgd, hge⟩ := c
    cases X
    subst eP ew eK em eb
    subst ex ey
    obtain rfl : v = Value.ref aa := rx
    obtain rfl : u = Value.ref bb := ry
    obtain ⟨sl, od, _, J, _⟩ := SlX.slt_inst I hx
    obtain ⟨sl', od', _, J', _⟩ := SlX.slt_inst I hy
    obtain ⟨mm, hF⟩ := I.fr
    refine PySem.W.binop_K hF I.ok.mod.kin J J'.type h1 h2 h3 ?_
    refine wpAny_mono (run_fnS (us := [.ref aa, .ref bb]) (vs := [.ref aa, .ref bb]) F (rm.mono hj) (pass σ) I (.cons rfl (.cons rfl .nil)) q) (fun z s' hz => ?_) fun _ _ z => z
    obtain ⟨z', H', I', rz, qz⟩ := hz
    exact SlX.cmpback rz ⟨z', H', I', rz, qz⟩
end
end DS
namespace DN
open PySem PySem.Spec PySem.Calls PyProof.Rows PySem.W Builtin
section
variable {prog : Program} {w : World} {M : Model} {A : Around} {E : Value → Shared → Prop} {s : Shared} {K : Frag} {x C L f : Addr} {h₀ : Heap} {m : Str → Option Value} {ox : Obj} {od : Option Obj} {name : Str} {b tb : Value}
theorem bound_bi {id : String} {args : List Value} {Q : Option Value → Shared → Prop} (X : K.In s.heap) (I : InstAt s.heap x ox C od) (hs : findIn K (.ref C) name = some (some (.builtin id))) (hb : ∀ self, bindSpecial (.builtin id) self = pure (.builtin id, [self]))
    (h : wpAny M A (call (.builtin id) (.ref x :: args)) (fun v => Q (some v)) E s) : wpAny M A (callSpecialIfBound? (.ref x) name args) Q E s := by
  simp only [callSpecialIfBound?, bindSpecialIfBound?]
  refine wpAny_holding (wpAny_bind (wpAny_bind (wpAny_bind (I.type.here ((looks_findIn X hs).here ?_)))))
  refine wpAny_bind (wpAny_askSetting (wpAny_ite ?_))
  have fin : wpAny M A (call (.builtin id) ([.ref x] ++ args) >>= fun v => pure (some v)) Q E s := wpAny_bind (wpAny_mono h (fun v s' q => wpAny_pure q) fun _ _ q => q)
  split
  · exact wpAny_bind ((Looks.of_pure (hb _)).here (wpAny_pure (by exact fin)))
  · exact wpAny_tryCatch (wpAny_bind ((Looks.of_pure (hb _)).here (wpAny_pure (by exact fin))))
theorem ne_slot : Slot "object" "__ne__" "object.__ne__" := PySem.F.cmp_object.ne
theorem call_ne {Q : Value → Shared → Prop} (hu : A.in1.units < cLine) (X : K.In s.heap) (I : InstAt s.heap x ox C od) (hm : mroIn K C (.type "object") = some true) (hr : findIn K (.ref C) "__eq__" = some (some (.ref f))) (hf : isFn K (.ref f) = true)
    (h : wpAny (model prog w) A.in1 (call (.ref f) [.ref x, b]) (fun v s' => ∃ r, v = .bool r ∧ Q (.bool (!r)) s') E s) : wpAny (model prog w) A (call (.builtin "object.__ne__") [.ref x, b]) Q E s := by
  refine wpAny_call (codeAny_call_builtin ne_slot.plain PySem.F.cmpEntry_ne (check_slot (i := "object.__ne__") (owner := "object") (n := "__ne__") (by decide +kernel) (by decide +kernel) (I.type.andThen (looks_mroIn X hm)) (PySem.F.cmpArgs_ne _ _) ?_))
  unfold Builtin.«object.__ne__»
  refine wpAny_bind (m := slotArgs "__ne__" 1 _) (wpAny_pure ?_)
  refine wpAny_bind (m := cRoomFor _ _) (wpAny_cRoomFor hu ?_)
  refine wpAny_bind (m := callSpecialIfBound? (.ref x) (Str.ofString "__eq__") [b]) (ifBound_K X I hr hf (wpAny_mono h (fun v s' hv => ?_) fun _ _ q => q))
  obtain ⟨r, rfl, q⟩ := hv
  refine wpAny_bind (m := truthy (.bool r)) (wpAny_truthy_bool ?_)
  refine wpAny_pure ?_
  exact q
theorem ne_K {Q : Value → Shared → Prop} (hu : A.units < cLine) (hu1 : A.in1.units < cLine) (F : Fr h₀ L s.heap m) (X₀ : K.In h₀) (I : InstAt s.heap x ox C od) (hb : Looks (model prog w) s.heap (typeOf b) tb) (hn : notFirst K C tb = true) (hm : mroIn K C (.type "object") = some true)
    (hs : findIn K (.ref C) "__ne__" = some (some (.builtin "object.__ne__"))) (hr : findIn K (.ref C) "__eq__" = some (some (.ref f))) (hf : isFn K (.ref f) = true)
    (h : wpAny (model prog w) A.in1 (call (.ref f) [.ref x, b]) (fun v s' => ∃ r, v = .bool r ∧ Q (.bool (!r)) s') E s) : wpAny (model prog w) A (compareOp .NotEq (.ref x) b) Q E s := by
  have X := X₀.keeps F.keep
  have one : wpAny (model prog w) A (tryCompare (.ref x) (cmpInfo .NotEq).2.1 b) (fun r s' => ∃ v, r = some v ∧ Q v s') E s := by
    unfold tryCompare
    refine wpAny_bind (bound_bi X I hs ne_slot.bind (call_ne hu1 X I hm hr hf (wpAny_mono h (fun v s' hv => ?_) fun _ _ e => e)))
    obtain ⟨r, rfl, q⟩ := hv
    exact ⟨r, rfl, wpAny_pure ⟨_, rfl, q⟩⟩
  show wpAny (model prog w) A (richCompare .NotEq (.ref x) b) Q E s
  unfold richCompare
  simp only [oneThing_ref]
  refine wpAny_holding (wpAny_bind (wpAny_cRoomFor hu ?_))
  refine wpAny_bind (I.type.here (wpAny_bind (hb.here ?_)))
  split
  · rename_i q
    have e : subIn K tb (.ref C) = some false := by
      rcases Bool.or_eq_true_iff.mp hn with e | e
      · rw [beq_iff_eq.mp e] at q; simp at q
      · exact beq_iff_eq.mp e
    refine wpAny_bind ((looks_subIn X e).here ?_)
    simp only [Bool.false_eq_true, if_false]
    refine wpAny_bind (wpAny_mono one (fun r s' z => ?_) fun _ _ e => e)
    obtain ⟨v, rfl, hq⟩ := z
    exact wpAny_pure hq
  · refine wpAny_bind (wpAny_pure ?_)
    simp only [Bool.false_eq_true, if_false]
    refine wpAny_bind (wpAny_mono one (fun r s' z => ?_) fun _ _ e => e)
    obtain ⟨v, rfl, hq⟩ := z
    exact wpAny_pure hq
end
end DN
namespace DS
open PySem PySem.Spec PyProof.Rows L2
section
variable {M : Mo} {k : Nat} {W : WX} {N : List Str} {sc : Sc}
variable {e a b o : Expr} {es : List Expr} {f fa fb fo : EE} {fs fr : EA} {pos p apos : Pos} {x m : Str}
/-- a def of the class runs below a builtin -/
theorem run_fn1 {X : Cx} {A : Around} {CX : CXT} {k : Nat} {g : Addr} {sp : Sp} {E : XK} {Q : VK} {us : List Value} {vs : List V} {pins : List (Addr × Obj)} {σ : L2.St} {H : Hp} {s : Shared} (F : FnR X.prog X.w X.K X.mg X.base CX k g sp) (hr : Room k A)
    (he : Env0 X.prog X.w X.K X.mg X.base A X.stack s H) (hx : PassesAt CX X σ E) (I : Inv X pins σ H s) (r : Vals vs us) (h : sp vs H Q E) : wpAny (model X.prog X.w) A (call (.ref g) us) (EP X pins σ Q) X.xe s := by
  refine wpAny_call (codeAny_mono (F A X.stack s H us vs Q E hr he r h) fun res s' hq => ?_)
  rcases res with e | fl
  · exact hx pins H s e s' I hq
  · cases fl with
    | ret u => exact I.after hq
    | _ => exact False.elim hq
def eqTypes : List String := ["int", "bool", "str", "tuple", "list", "NoneType", "dict"]
def HasE (M : Mo) (c : Str) (j : Nat) (ff : FF) : Prop := ∃ C g, M.mg c = some (.ref C) ∧ PySem.W.findIn M.K (.ref C) "__eq__" = some (some (.ref g)) ∧ PySem.W.isFn M.K (.ref g) = true ∧
  PySem.W.findIn M.K (.ref C) "__ne__" = some (some (.builtin "object.__ne__")) ∧ (∀ t ∈ eqTypes, PySem.W.notFirst M.K C (.type t) = true) ∧ FnR M.P M.w M.K M.mg M.base (L2.CX M.P M.w) j g (spD M.G 2 ff)
def EqSide (M : Mo) (C : Addr) (y : V) (H : Hp) : Prop := (∃ t ∈ eqTypes, TyX M.K H y (.type t)) ∨ ∃ b dy ws, y = .ref b ∧ SlX.Slt H b C dy ws
def rOE (M : Mo) (tbl : List (Str × FF)) (neg : Bool) (r0 : R2) (E : L2.St → XK) : L2.St → R2 := fun σ x y H Q => r0 x y H Q ∨ ∃ c ff C a dx vs, (c, ff) ∈ tbl ∧ M.mg c = some (.ref C) ∧ x = .ref a ∧ SlX.Slt H a C dx vs ∧ SlX.SIsi M.K C ∧ EqSide M C y H ∧
  spD M.G 2 ff [x, y] H (fun z H' => ∃ r, z = .bl r ∧ Q (.bl (r != neg)) H') (E σ)
def eqSide (st : Sto) (c : Str) : D → Bool
  | .obj c' _ => decide (c = c')
  | y => match y.clsH st with
    | some t => eqTypes.contains t
    | none => false
def negR (neg : Bool) : Res D → Res D
  | .ok (.bl r) st => .ok (.bl (r != neg)) st
  | .ex e st => .ex e st
  | _ => .stk
def opE (tbl : List (Str × FF)) (neg : Bool) (g : Sto → D → D → Option D) (st : Sto) (x y : D) : Res D := match x with
  | .obj c fs => match tget tbl c with
    | some ff => if eqSide st c y = true then negR neg (callD 2 ff st [.obj c fs, y]) else .stk
    | none => .stk
  | x => Res.ofO (g st x y) st
def eOE (tbl : List (Str × FF)) (neg : Bool) (g : Sto → D → D → Option D) (fa fb : EE) : EE := fun sd st => (fa sd st).bind fun x st1 => (fb sd st1).bind fun y st2 => opE tbl neg g st2 x y
theorem eqSide_rep {w : Wd} {st : Sto} {c : Str} {C : Addr} {y : V} {dy : D} (rel : Rel M.G w st) (hm : M.mg c = some (.ref C)) (ry : Rep M.G w.I w.ph y dy) (h : eqSide st c dy = true) : EqSide M C y w.H := by
  have plain : (match dy.clsH st with
    | some t => eqTypes.contains t
    | none => false) = true → EqSide M C y w.H := fun h => by
    cases q : dy.clsH st with
    | none => rw [q] at h; cases h
    | some t =>
      rw [q] at h
      exact .inl ⟨t, List.contains_iff_mem.mp h, cls_rep rel ry q⟩
  cases dy with
  | obj c' fs =>
    have h : decide (c = c') = true := h
    have h := of_decide_eq_true h
    subst h
    obtain ⟨a, C', d1, vs, rfl, m1, m2, m3, m4⟩ := obj_rep rel ry
    have m1 : M.mg c = some (.ref C') := m1
    rw [hm] at m1
    cases m1
    exact .inr ⟨a, d1, vs, rfl, m3⟩
  | _ => exact plain h
theorem negR_post {neg : Bool} {r : Res D} {w : Wd} {Q : VK} {E : XK} (h : Post M.G (RE M.G) w (negR neg r) Q E) : Post M.G (RE M.G) w r (fun z H' => ∃ r, z = .bl r ∧ Q (.bl (r != neg)) H') E := by
  cases r with
  | ok x st =>
    cases x with
    | bl r =>
      intro w' y s rel ry
      exact ⟨r, bl_rep ry, h w' _ s rel (.bl _)⟩
    | _ => exact h.elim
  | ex e st => exact h
  | stk => exact h.elim
theorem opE_ok {tbl : List (Str × FF)} {neg : Bool} {g : Sto → D → D → Option D} {r0 : R2} {E : L2.St → XK} {w : Wd} {st : Sto} {x y : V} {dx dy : D} {σ : L2.St} {Q : VK} (hg : OpD M.G r0 g) (rel : Rel M.G w st) (rx : Rep M.G w.I w.ph x dx) (ry : Rep M.G w.I w.ph y dy)
    (h : Post M.G (RE M.G) w (opE tbl neg g st dx dy) Q (E σ)) : rOE M tbl neg r0 E σ x y w.H Q := by
  unfold opE at h
  split at h
  · rename_i c fs
    cases q : tget tbl c with
    | none => rw [q] at h; exact h.elim
    | some ff =>
      rw [q] at h
      replace h : Post M.G (RE M.G) w (if eqSide st c dy = true then negR neg (callD 2 ff st [.obj c fs, dy]) else .stk) Q (E σ) := h
      split at h
      case isFalse => exact h.elim
      rename_i hs
      obtain ⟨a, C, d1, vs, rfl, m1, m2, m3, m4⟩ := obj_rep rel rx
      exact .inr ⟨c, ff, C, a, d1, vs, tget_mem q, m1, rfl, m3, m2.2.1, eqSide_rep rel m1 ry hs, callD_ok rel (Reps.cons rx (Reps.cons ry Reps.nil)) (negR_post h)⟩
  · obtain ⟨d, e, h3⟩ := ofO_post h
    exact .inl (hg w st x y _ dy d Q rel rx ry e h3)
theorem se_OE {tbl : List (Str × FF)} {neg : Bool} {g : Sto → D → D → Option D} {r0 : R2} {E : L2.St → XK} {ta tb : TE} (hg : OpD M.G r0 g) (ha : SE M.G E ta fa) (hb : SE M.G E tb fb) : SE M.G E (tOS (rOE M tbl neg r0 E) ta tb) (eOE tbl neg g fa fb) := by
  intro w sv sd st Q rel sl h
  refine ha w sv sd st _ rel sl ((Post.bind h).imp ?_)
  rintro x _ ⟨w1, dx, st1, rfl, s1, r1, rx, h1⟩
  refine hb w1 sv sd st1 _ r1 (sl.step s1) ((Post.bind (h1.step anE s1)).imp ?_)
  rintro y _ ⟨w2, dy, st2, rfl, s2, r2, ry, h2⟩
  exact opE_ok hg r2 (Rep.step s2 rx) ry (h2.step anE s2)
theorem pe_cmpS {X : Cx} {op : CmpOp} {r : L2.St → R2} {ta tb : TE} (ho : OpS X (compareOp op) r) (ha : PE X a ta) (hb : PE X b tb) (hm : behindInMarks op b = false) : PE X (.Compare a [op] [b] pos) (tOS r ta tb) :=
  ⟨fun pins s σ H Q I h => wpAny_Compare1 (binT ha hb I h fun v u s2 x y H2 I2 rx ry q => ho pins s2 σ H2 x y v u Q I2 rx ry q) hm⟩
theorem ops_eq {op : CmpOp} {neg : Bool} {tbl : List (Str × FF)} {j : Nat} {r0 : R2} {X : Cx} (hop : (op = .Eq ∧ neg = false) ∨ (op = .NotEq ∧ neg = true)) (ht : ∀ c ff, (c, ff) ∈ tbl → HasE M c j ff) (hj : j + 1 ≤ k) (c : CK M k W N sc X) (ho : OpR X (compareOp op) r0) :
    OpS X (compareOp op) (rOE M tbl neg r0 (EW W)) := by
  intro pins s σ H x y v u Q I rx ry h
  rcases h with h | ⟨c', ff, C, aa, dx, vs, hm, hC, ex, hx, hi, hy, q⟩
  · exact ho pins s σ H x y v u Q I rx ry h
  obtain ⟨C', g', hC', h1, h2, h3, h4, F⟩ := ht c' ff hm
  rw [hC] at hC'
  cases hC'
  obtain ⟨eP, ew, eK, em, eb, eN, eS, ecalm, rm, nd, fn, pass, hla, hgd, hge⟩ := c
  cases X
  subst eP ew eK em eb
  subst ex
  obtain rfl : v = Value.ref aa := rx
  obtain ⟨sl, od, _, J, _⟩ := SlX.slt_inst I hx
  obtain ⟨mm, hF⟩ := I.fr
  have side : ∃ tb, PySem.W.notFirst M.K C tb = true ∧ PySem.W.Looks (model M.P M.w) s.heap (typeOf u) tb := by
    rcases hy with ⟨t, ht, ty⟩ | ⟨bb, dy, ws, ey, hb⟩
    · obtain ⟨P, Z, hp, _⟩ := kit_of I ry ty
      exact ⟨_, h4 t ht, Z.ty _ _ I.kIn hp⟩
    · subst ey
      obtain rfl : u = Value.ref bb := ry
      obtain ⟨sl', od', _, J', _⟩ := SlX.slt_inst I hb
      refine ⟨.ref C, ?_, J'.type⟩
      unfold PySem.W.notFirst
      rw [beq_self_eq_true, Bool.true_or]
  obtain ⟨tb, hn, hl⟩ := side
  have rm0 := rm.mono (Nat.le_of_succ_le hj)
  have rm1 := rm.mono hj
  rcases hop with ⟨rfl, rfl⟩ | ⟨rfl, rfl⟩
  · show wpAny _ _ (richCompare .Eq _ _) _ _ _
    refine PySem.W.cmp_K rm.units0 hF I.ok.mod.kin J hl hn h1 h2 ?_
    refine wpAny_mono (run_fn1 (us := [.ref aa, u]) (vs := [.ref aa, y]) F rm0 I.env0 (pass σ) I (.cons rfl (.cons ry .nil)) q) (fun z s' hz => ?_) fun _ _ z => z
    obtain ⟨z', H', I', rz, r, ez, qz⟩ := hz
    subst ez
    cases rz
    exact ⟨.bl r, H', I', rfl, by rw [Bool.bne_false] at qz; exact qz⟩
  · refine DN.ne_K rm.units0 rm1.in1.units0 hF I.ok.mod.kin J hl hn hi.cm h3 h1 h2 ?_
    refine wpAny_mono (run_fn1 (us := [.ref aa, u]) (vs := [.ref aa, y]) F rm1.in1 I.env0.in1 (pass σ) I (.cons rfl (.cons ry .nil)) q) (fun z s' hz => ?_) fun _ _ z => z
    obtain ⟨z', H', I', rz, r, ez, qz⟩ := hz
    subst ez
    cases rz
    exact ⟨r, rfl, .bl (!r), H', I', rfl, by rw [Bool.bne_true] at qz; exact qz⟩
theorem de_eqO {tbl : List (Str × FF)} {j : Nat} (ht : ∀ c ff, (c, ff) ∈ tbl → HasE M c j ff) (hj : j + 1 ≤ k) (ha : DE M k W N sc a fa) (hb : DE M k W N sc b fb) (hm : behindInMarks .Eq b = false := by rfl) : DE M k W N sc (.Compare a [.Eq] [b] pos) (eOE tbl false eqD fa fb) := by
  obtain ⟨ta, pa, sa⟩ := ha
  obtain ⟨tb, pb, sb⟩ := hb
  exact ⟨_, fun X c => pe_cmpS (ops_eq (.inl ⟨rfl, rfl⟩) ht hj c (cm_eq.op X c.eK (room_hu c.rm))) (pa X c) (pb X c) hm, se_OE cm_eq.d sa sb⟩
end
end DS
namespace DS
open PySem PySem.Spec PyProof.Rows L2
section
variable {M : Mo} {k : Nat} {W : WX} {N : List Str} {sc : Sc}
variable {e a b o : Expr} {es : List Expr} {f fa fb fo : EE} {fs fr : EA} {pos p apos : Pos} {x m : Str}
def HasU (M : Mo) (c m : Str) (j : Nat) (ff : FF) : Prop := ∃ C g, M.mg c = some (.ref C) ∧ PySem.W.findIn M.K (.ref C) m = some (some (.ref g)) ∧ PySem.W.isFn M.K (.ref g) = true ∧ FnR M.P M.w M.K M.mg M.base (L2.CX M.P M.w) j g (spD M.G 1 ff)
/-- the def of x's class, then P of what it gives -/
def rOU (M : Mo) (tbl : List (Str × FF)) (P : V → Hp → VK → Prop) (E : XK) : V → Hp → VK → Prop := fun x H Q => ∃ c ff C a dx vs, (c, ff) ∈ tbl ∧ M.mg c = some (.ref C) ∧ x = .ref a ∧ SlX.Slt H a C dx vs ∧ spD M.G 1 ff [x] H (fun z H' => P z H' Q) E
def opU (tbl : List (Str × FF)) (h : D → Option D) (g : Sto → D → Option D) (st : Sto) (x : D) : Res D := match x with
  | .obj c fs => match tget tbl c with
    | some ff => (callD 1 ff st [.obj c fs]).bind fun y st1 => Res.ofO (h y) st1
    | none => .stk
  | x => Res.ofO (g st x) st
def eOU (tbl : List (Str × FF)) (h : D → Option D) (g : Sto → D → Option D) (fa : EE) : EE := fun sd st => (fa sd st).bind fun x st1 => opU tbl h g st1 x
/-- what comes back is a D of the kind h, kept -/
def Kept (P : V → Hp → VK → Prop) (h : D → Option D) : Prop := ∀ (G : Md) (I : Hp) (ph : List Addr) (v : V) (d d' : D) (H : Hp) (Q : VK), Rep G I ph v d → h d = some d' → Q v H → (P v H Q ∧ d' = d)
def any1 : D → Option D := fun d => some d
def rAny : V → Hp → VK → Prop := fun z H Q => Q z H
theorem kept_any : Kept rAny any1 := fun G I ph v d d' H Q _ e q => ⟨q, (Option.some.inj e).symm⟩
theorem opU_ok {tbl : List (Str × FF)} {h : D → Option D} {g : Sto → D → Option D} {P : V → Hp → VK → Prop} {r0 : V → Hp → VK → Prop} {E : XK} {w : Wd} {st : Sto} {x : V} {dx : D} {Q : VK} (hk : Kept P h) (hg : UnD M.G r0 g) (rel : Rel M.G w st) (rx : Rep M.G w.I w.ph x dx)
    (q : Post M.G (RE M.G) w (opU tbl h g st dx) Q E) : r0 x w.H Q ∨ rOU M tbl P E x w.H Q := by
  unfold opU at q
  split at q
  · rename_i c fs
    cases t : tget tbl c with
    | none => rw [t] at q; exact q.elim
    | some ff =>
      rw [t] at q
      obtain ⟨a, C, d1, vs, rfl, m1, m2, m3, m4⟩ := obj_rep rel rx
      refine .inr ⟨c, ff, C, a, d1, vs, tget_mem t, m1, rfl, m3, callD_ok rel (Reps.cons rx Reps.nil) ((Post.bind q).imp ?_)⟩
      rintro z _ ⟨w1, d, st1, rfl, s1, r1, rz, q1⟩
      obtain ⟨d', e, q2⟩ := ofO_post q1
      have zz := hk _ _ _ z d d' w1.H (fun _ _ => True) rz e trivial
      have := zz.2
      subst this
      exact (hk _ _ _ z _ _ w1.H Q rz e (q2 w1 z s1 r1 rz)).1
  · obtain ⟨d, e, h3⟩ := ofO_post q
    exact .inl (hg w st x _ d Q rel rx e h3)
def tUS (r : L2.St → V → Hp → VK → Prop) (ta : TE) : TE := fun σ H Q => ta σ H fun x H1 => r σ x H1 Q
def rUS (M : Mo) (tbl : List (Str × FF)) (P r0 : V → Hp → VK → Prop) (E : L2.St → XK) : L2.St → V → Hp → VK → Prop := fun σ x H Q => r0 x H Q ∨ rOU M tbl P (E σ) x H Q
theorem se_OU {tbl : List (Str × FF)} {h : D → Option D} {g : Sto → D → Option D} {P r0 : V → Hp → VK → Prop} {E : L2.St → XK} {ta : TE} (hk : Kept P h) (hg : UnD M.G r0 g) (ha : SE M.G E ta fa) : SE M.G E (tUS (rUS M tbl P r0 E) ta) (eOU tbl h g fa) := by
  intro w sv sd st Q rel sl q
  refine ha w sv sd st _ rel sl ((Post.bind q).imp ?_)
  rintro x _ ⟨w1, dx, st1, rfl, s1, r1, rx, h1⟩
  exact opU_ok hk hg r1 rx (h1.step anE s1)
theorem de_negO {tbl : List (Str × FF)} {j : Nat} (ht : ∀ c ff, (c, ff) ∈ tbl → HasU M c "__neg__" j ff) (hj : j ≤ k) (ha : DE M k W N sc a fa) : DE M k W N sc (.UnaryOp .USub a pos) (eOU tbl any1 negD fa) := by
  obtain ⟨ta, pa, sa⟩ := ha
  refine ⟨_, fun X c => ⟨fun pins s σ H Q I h => ?_⟩, se_OU (tbl := tbl) (P := rAny) kept_any d_neg sa⟩
  refine UnaryOp_ (thn ((pa X c).run pins s σ H _ I h) fun v s1 ⟨x, H1, I1, rx, q⟩ => ?_)
  rcases q with q | ⟨c', ff, C, aa, dx, vs, hm, hC, ex, hx, q⟩
  · exact un_neg pins s1 σ H1 x v Q I1 rx q
  obtain ⟨C', g', hC', h1, h2, F⟩ := ht c' ff hm
  rw [hC] at hC'
  cases hC'
  obtain ⟨eP, ew, eK, em, eb, eN, eS, ecalm, rm, nd, fn, pass, hla, hgd, hge⟩ := c
  cases X
  subst eP ew eK em eb
  subst ex
  obtain rfl : v = Value.ref aa := rx
  obtain ⟨sl, od, _, J, _⟩ := SlX.slt_inst I1 hx
  obtain ⟨mm, hF⟩ := I1.fr
  exact PySem.W.ksp_neg hF I1.ok.mod.kin J h1 h2 (run_fn1 (us := [.ref aa]) (vs := [.ref aa]) F (rm.mono hj) I1.env0 (pass σ) I1 (.cons rfl .nil) q)
end
end DS
namespace DS
open PySem PySem.Spec PyProof.Rows L2
def fix (f : Str) : List (Str × Option D) → Option Nat
  | [] => none
  | (y, _) :: r => if y = f then some 0 else (fix f r).map (· + 1)
theorem fix_at {f : Str} : ∀ {fs : List (Str × Option D)} {l : Nat}, fix f fs = some l → ∃ o, fs[l]? = some (f, o)
  | [], l, h => by cases h
  | (y, o) :: r, l, h => by
    unfold fix at h
    by_cases e : y = f
    · rw [if_pos e] at h
      cases h
      exact ⟨o, by rw [← e]; rfl⟩
    · rw [if_neg e] at h
      cases q : fix f r with
      | none => rw [q] at h; cases h
      | some n =>
        rw [q] at h
        cases h
        obtain ⟨o', e'⟩ := fix_at q
        exact ⟨o', e'⟩
def sAtt (f : Str) (fe fo : EE) : SS := fun sd st => (fe sd st).toS sd fun y st1 => (fo sd st1).toS sd fun o st2 => match o with
  | .hnd i => match st2[i]? with
    | some (.ob j c fs) => match fix f fs with
      | some l => .go .nx sd (st2.set i (.ob j c (fs.set l (f, some y))))
      | none => .stk
    | _ => .stk
  | _ => .stk
section
variable {G : Md} {w : Wd} {st : Sto}
theorem att_ok {i j l : Nat} {a C dx : Addr} {c f : Str} {fs : List (Str × Option D)} {o : Option D} {vs : List (Option V)} {y : V} {d : D} (rel : Rel G w st) (hi : w.ph[i]? = some a) (hs : st[i]? = some (.ob j c fs)) (h0 : w.I a = none) (hm : G.mg c = some (.ref C))
    (hc : SObj G C (fs.map (·.1))) (ne : dx ≠ a) (hf : (w.H a = some (.ins C dx []) ∧ w.H dx = some (.own a) ∧ vs = []) ∨ (w.H a = some (SlX.SlO a C dx vs) ∧ w.H dx = some (.xd []))) (hj : w.ph[j]? = some dx) (hd : w.I dx = none)
    (hv : ∀ (i : Nat) q d, fs[i]? = some q → q.2 = some d → ∃ v, vs[i]? = some (some v) ∧ Rep G w.I w.ph v d) (ry : Rep G w.I w.ph y d) (hl : fs[l]? = some (f, o)) :
    Step w ⟨w.I, w.ph, SlX.slH w.H a C dx (SlX.putS l y vs)⟩ ∧ Rel G ⟨w.I, w.ph, SlX.slH w.H a C dx (SlX.putS l y vs)⟩ (st.set i (.ob j c (fs.set l (f, some d)))) := by
  have ma : a ∈ w.ph := List.mem_of_getElem? hi
  have md : dx ∈ w.ph := List.mem_of_getElem? hj
  have hA : SlX.slH w.H a C dx (SlX.putS l y vs) a = some (SlX.SlO a C dx (SlX.putS l y vs)) := by unfold SlX.slH; rw [upd_same]
  have hD : SlX.slH w.H a C dx (SlX.putS l y vs) dx = some (.xd []) := by unfold SlX.slH; rw [upd_ne ne, upd_same]
  have notbl : ∀ (b : Addr) ps, SlX.slH w.H a C dx (SlX.putS l y vs) b = some (.tbl ps) ↔ w.H b = some (.tbl ps) := fun b ps => by
    by_cases h1 : b = a
    · rw [h1, hA]
      refine ⟨fun z => ?_, fun z => absurd rfl ((rel.kinds ma z).1 ps)⟩
      unfold SlX.SlO at z
      cases z
    · by_cases h2 : b = dx
      · rw [h2, hD]
        exact ⟨fun z => (by cases z), fun z => absurd rfl ((rel.kinds md z).1 ps)⟩
      · rw [SlX.slH_ne h1 h2]
  have hst : Step w ⟨w.I, w.ph, SlX.slH w.H a C dx (SlX.putS l y vs)⟩ := by
    refine ⟨Evl.Ex.refl _, Px.refl, fun _ _ h => .inl h, fun _ h => .inl h, fun b u h n _ => ?_, fun b h => ?_⟩
    · have h1 : b ≠ a := fun z => n (z ▸ ma)
      have h2 : b ≠ dx := fun z => n (z ▸ md)
      show SlX.slH w.H a C dx _ b = _
      rw [SlX.slH_ne h1 h2]
      exact h
    · by_cases h1 : b = a
      · rcases h with h | ⟨ps, h⟩
        · have h : SlX.slH w.H a C dx (SlX.putS l y vs) b = none := h
          rw [h1, hA] at h; cases h
        · have h := (notbl b ps).mp h
          rw [h1] at h
          exact absurd rfl ((rel.kinds ma h).1 ps)
      · by_cases h2 : b = dx
        · rcases h with h | ⟨ps, h⟩
          · have h : SlX.slH w.H a C dx (SlX.putS l y vs) b = none := h
            rw [h2, hD] at h; cases h
          · have h := (notbl b ps).mp h
            rw [h2] at h
            exact absurd rfl ((rel.kinds md h).1 ps)
        · exact h.eq (SlX.slH_ne h1 h2).symm
  refine ⟨hst, ⟨fun b u h => ?_, by rw [List.length_set]; exact rel.len, rel.nd, fun n b c' hn hc' => ?_, TabOk.step rel hst (fun b ps e => (notbl b ps).mpr e) rel.tab.no⟩⟩
  · have h : w.I b = some u := h
    show SlX.slH w.H a C dx _ b = _
    rw [SlX.slH_ne (ne_of_none h h0) (ne_of_none h hd)]
    exact rel.sub b u h
  · have hn : w.ph[n]? = some b := hn
    by_cases e : i = n
    · subst e
      rw [hi] at hn
      cases hn
      rw [List.getElem?_set_self (List.getElem?_eq_some_iff.mp hs).1] at hc'
      cases hc'
      refine ⟨h0, ma, C, dx, SlX.putS l y vs, hm, ?_, ne, .inr ⟨hA, hD⟩, hj, hd, fun n q d' e1 e2 => ?_⟩
      · have z : (fs.set l (f, some d)).map (·.1) = fs.map (·.1) := by
          apply List.ext_getElem?
          intro n
          rw [List.getElem?_map, List.getElem?_map, List.getElem?_set]
          by_cases h : l = n
          · subst h
            rw [if_pos rfl, if_pos (List.getElem?_eq_some_iff.mp hl).1, hl]
            rfl
          · rw [if_neg h]
        rw [z]
        exact hc
      · rw [List.getElem?_set] at e1
        by_cases h : l = n
        · subst h
          rw [if_pos rfl, if_pos (List.getElem?_eq_some_iff.mp hl).1] at e1
          cases e1
          cases e2
          exact ⟨y, SlX.putS_get l y vs, ry⟩
        · rw [if_neg h] at e1
          obtain ⟨v, e3, r⟩ := hv n q d' e1 e2
          exact ⟨v, (SlX.putS_ne (Ne.symm h)).mpr e3, r⟩
    · rw [List.getElem?_set_ne e] at hc'
      have hb : b ≠ a := fun z => by
        subst z
        obtain ⟨x1, y1⟩ := List.getElem?_eq_some_iff.mp hi
        obtain ⟨x2, y2⟩ := List.getElem?_eq_some_iff.mp hn
        exact e ((List.getElem_inj rel.nd).mp (y1.trans y2.symm))
      have k := rel.cel n b c' hn hc'
      cases c' with
      | dead =>
        by_cases h2 : b = dx
        · exact ⟨.xd [], by rw [h2]; exact hD, ⟨fun _ z => (nomatch z), fun _ z => (nomatch z)⟩⟩
        · obtain ⟨u, hu, pl⟩ := k
          exact ⟨u, by show SlX.slH w.H a C dx _ b = _; rw [SlX.slH_ne hb h2]; exact hu, pl⟩
      | lst xs =>
        obtain ⟨k0, us, k1, k2⟩ := k
        have h2 : b ≠ dx := fun z => by
          rw [z] at k1
          rcases hf with ⟨_, z, _⟩ | ⟨_, z⟩ <;> (rw [k1] at z; cases z)
        exact ⟨k0, us, by show SlX.slH w.H a C dx _ b = _; rw [SlX.slH_ne hb h2]; exact k1, k2⟩
      | ob j2 c2 fs2 =>
        obtain ⟨k0, k1, C2, dx2, vs2, k2, k3, k4, k5, k6, k7, k8⟩ := k
        have h2 : b ≠ dx := fun z => by
          rcases k5 with ⟨y1, _⟩ | ⟨y1, _⟩
          · rw [z] at y1
            rcases hf with ⟨_, z, _⟩ | ⟨_, z⟩ <;> (rw [y1] at z; cases z)
          · rw [z] at y1
            rcases hf with ⟨_, z, _⟩ | ⟨_, z⟩ <;> (rw [y1] at z; unfold SlX.SlO at z; cases z)
        have h3 : dx2 ≠ a := fun z => by
          rcases k5 with ⟨_, y1, _⟩ | ⟨_, y1⟩
          · rw [z] at y1
            rcases hf with ⟨z, _⟩ | ⟨z, _⟩ <;> (rw [y1] at z; first | cases z | (unfold SlX.SlO at z; cases z))
          · rw [z] at y1
            rcases hf with ⟨z, _⟩ | ⟨z, _⟩ <;> (rw [y1] at z; first | cases z | (unfold SlX.SlO at z; cases z))
        refine ⟨k0, k1, C2, dx2, vs2, k2, k3, k4, ?_, k6, k7, k8⟩
        by_cases h4 : dx2 = dx
        · subst h4
          rcases k5 with ⟨_, y1, _⟩ | ⟨y1, y2⟩
          · exfalso
            rcases hf with ⟨_, z, _⟩ | ⟨_, z⟩
            · rw [y1] at z
              injection z with z
              injection z with z
              exact hb z
            · rw [y1] at z; cases z
          · refine .inr ⟨?_, hD⟩
            show SlX.slH w.H a C dx2 _ b = _
            rw [SlX.slH_ne hb h2]
            exact y1
        · show (SlX.slH w.H a C dx _ b = _ ∧ SlX.slH w.H a C dx _ dx2 = _ ∧ _) ∨ (SlX.slH w.H a C dx _ b = _ ∧ SlX.slH w.H a C dx _ dx2 = _)
          rw [SlX.slH_ne hb h2, SlX.slH_ne h3 h4]
          exact k5
theorem sd_att {W : WX} {te to : TE} {fe fo : EE} {f : Str} (he : SE G (EW W) te fe) (ho : SE G (EW W) to fo) : SD G W (SlX.sSl G.K to te f) (sAtt f fe fo) := by
  intro w sv sd st Dn rel sl q
  refine he w sv sd st _ rel sl ((PostS.ofE sl q).imp ?_)
  rintro y _ ⟨w1, dy, st1, rfl, s1, r1, ry, h1⟩
  refine ho w1 sv sd st1 _ r1 (sl.step s1) ((PostS.ofE (sl.step s1) (h1.step s1)).imp ?_)
  rintro o _ ⟨w2, d0, st2, rfl, s2, r2, ro, h2⟩
  have h2 := h2.step s2
  cases d0 with
  | hnd i =>
    replace h2 : PostS G w2 (match st2[i]? with
      | some (.ob j c fs) => (match fix f fs with
        | some l => .go .nx sd (st2.set i (.ob j c (fs.set l (f, some dy))))
        | none => .stk)
      | _ => .stk) Dn W := h2
    cases e : st2[i]? with
    | none => rw [e] at h2; exact h2.elim
    | some cl =>
      rw [e] at h2
      cases cl with
      | lst _ => exact h2.elim
      | dead => exact h2.elim
      | ob j c fs =>
        replace h2 : PostS G w2 (match fix f fs with
          | some l => .go .nx sd (st2.set i (.ob j c (fs.set l (f, some dy))))
          | none => .stk) Dn W := h2
        cases e2 : fix f fs with
        | none => rw [e2] at h2; exact h2.elim
        | some l =>
          rw [e2] at h2
          obtain ⟨a, rfl, hi, h0, _, C, dx, vs, hm, hc, ne, hf, hj, hd, hv⟩ := ob_rep r2 ro e
          obtain ⟨o, hl⟩ := fix_at e2
          obtain ⟨p, hp⟩ := hc.2.2 l f (name_at hl)
          obtain ⟨s3, r3⟩ := att_ok r2 hi e h0 hm hc ne hf hj hd hv (Rep.step s2 ry) hl
          refine ⟨a, C, dx, p, vs, l, rfl, ?_, hc.1, hp, h2 _ sv s3 r3 (((sl.step s1).step s2).step s3)⟩
          rcases hf with ⟨z1, _, z2⟩ | ⟨z1, z2⟩
          · exact .inl ⟨z1, z2⟩
          · exact .inr ⟨z1, z2⟩
  | _ => exact h2.elim
end
section
variable {M : Mo} {k : Nat} {W : WX} {N : List Str} {sc : Sc}
variable {e a b o : Expr} {es : List Expr} {f fa fb fo : EE} {fs fr : EA} {pos p apos : Pos} {x m : Str}
theorem d1_att (he : DE M k W N sc e f) (ho : DE M k W N sc o fo) (hs : ∀ env : Env, swapsWith e (some (.Attribute o x p)) pos.line env = pure false := by intro _; rfl) : D1 M k W N sc (.Assign [.Attribute o x p] e pos) (sAtt x f fo) := by
  obtain ⟨te, pe, se⟩ := he
  obtain ⟨to, po, so⟩ := ho
  refine ⟨SlX.sSl M.K to te x, fun X c => ?_, sd_att se so⟩
  have z := SlX.ps_sl (f := x) (pos' := p) (pos := pos) (po X c.toCK) (pe X c.toCK) (hs X.env)
  rw [c.eK] at z
  exact z
end
end DS
namespace DS
open PySem PySem.Spec PyProof.Rows L2
section
variable {M : Mo} {k : Nat} {W : WX} {N : List Str} {sc : Sc}
variable {e a b o : Expr} {es : List Expr} {f fa fb fo : EE} {fs fr : EA} {pos p apos : Pos} {x m : Str}
/-- the classes cs of the text, each apart from the others and from the built-in types -/
structure HasI (M : Mo) (cs : List Str) : Prop where
  at_ : ∀ c ∈ cs, ∃ C, M.mg c = some (.ref C) ∧ (∀ t ∈ eqTypes, PySem.W.kitOne M.K (.type t) (.ref C) = some false) ∧ (∀ t ∈ eqTypes, PySem.W.kitOne M.K (.ref C) (.type t) = some false)
  two : ∀ c ∈ cs, ∀ d ∈ cs, ∀ C D, M.mg c = some (.ref C) → M.mg d = some (.ref D) → PySem.W.kitOne M.K (.ref C) (.ref D) = some (decide (c = d))
def isiO (cs : List Str) : Sto → List D → Option D := fun st ds => match ds with
  | [.obj c _, .glo d] => if c ∈ cs ∧ d ∈ cs then some (.bl (decide (c = d))) else none
  | [.obj c _, .ty t] => if c ∈ cs ∧ t ∈ eqTypes then some (.bl false) else none
  | [y, .glo d] => match y.clsH st with
    | some t => if d ∈ cs ∧ t ∈ eqTypes then some (.bl false) else none
    | none => none
  | ds => isiD st ds
def rIsiO (K : PySem.W.Frag) : List V → Hp → VK → Prop := fun xs H Q => rIsi K xs H Q ∨ ∃ u, SlX.rIsiSl K u xs H Q
theorem c_isiO {cs : List Str} (h : HasI M cs) : CaD M.G (rIsiO M.K) (isiO cs) := by
  intro w st vs ds d Q rel rs e q
  unfold isiO at e
  split at e
  · rename_i c os d0
    split at e
    case isFalse => cases e
    rename_i hc
    cases e
    obtain ⟨v, u, rfl, rv, ru⟩ := two_rep rs
    obtain ⟨aa, C, dx, vs, rfl, m1, m2, m3, m4⟩ := obj_rep rel rv
    cases ru with
    | glo hg =>
      rename_i bb
      refine .inr ⟨.ref bb, aa, C, dx, vs, .ref bb, _, rfl, rfl, fun w' r => r, m3, m2.1, m2.2.1, h.two c hc.1 d0 hc.2 C bb m1 hg, q w _ (Step.refl w) rel (.bl _)⟩
  · rename_i c os t
    split at e
    case isFalse => cases e
    rename_i hc
    cases e
    obtain ⟨v, u, rfl, rv, ru⟩ := two_rep rs
    obtain ⟨aa, C, dx, vs, rfl, m1, m2, m3, m4⟩ := obj_rep rel rv
    obtain ⟨C', hC, h1, h2⟩ := h.at_ c hc.1
    have m1 : M.mg c = some (.ref C) := m1
    rw [m1] at hC
    cases hC
    cases ru
    exact .inr ⟨.type t, aa, C, dx, vs, .ty t, _, rfl, rfl, fun w' r => r, m3, m2.1, m2.2.1, h2 t hc.2, q w _ (Step.refl w) rel (.bl _)⟩
  · rename_i y d0 _
    cases h1 : y.clsH st with
    | none => rw [h1] at e; cases e
    | some t =>
      rw [h1] at e
      replace e : (if d0 ∈ cs ∧ t ∈ eqTypes then some (D.bl false) else none) = some d := e
      split at e
      case isFalse => cases e
      rename_i hc
      cases e
      obtain ⟨v, u, rfl, rv, ru⟩ := two_rep rs
      obtain ⟨C', hC, h2, _⟩ := h.at_ d0 hc.1
      cases ru with
      | glo hg =>
        have hg : M.mg d0 = _ := hg
        rw [hC] at hg
        cases hg
        exact .inl ⟨v, .ref C', _, _, false, rfl, .own C', cls_rep rel rv h1, h2 t hc.2, q w _ (Step.refl w) rel (.bl _)⟩
  · exact .inl (c_isi w st vs ds d Q rel rs e q)
theorem bl_isiO {cs : List Str} (h : HasI M cs) : BltB M "isinstance" (rIsiO M.K) (isiO cs) := ⟨fun X e _ => by
  intro pins s σ H xs us Q I r q
  rw [← e] at q
  rcases q with q | ⟨u, q⟩
  · exact call_isi pins s σ H xs us Q I r q
  · exact SlX.call_isiSl u pins s σ H xs us Q I r q, c_isiO h⟩
def tNewV (M : Mo) (i : Nat) (C : Addr) (n : Nat) (ff : FF) (E : L2.St → XK) (t : TA) : TE := fun σ H Q => σ[i]? = some (some (.ref C)) ∧ tNew M C n ff E t σ H Q
def eNewV (i : Nat) (c : Str) (ns : List Str) (n : Nat) (ff : FF) (fa : EA) : EE := fun sd st => match sd[i]? with
  | some (some (.glo d)) => if d = c then eNew c ns n ff fa sd st else .stk
  | _ => .stk
theorem de_newV {ns : List Str} {c : Str} {j n : Nat} {ff : FF} (i : Nat) (hN : N[i]? = some x) (hv : Vis sc.v x) (h : HasC M c ns j n ff) (hj : j + 1 ≤ k) (ha : DA M k W N sc (e :: es) fs)
    (hs : ∀ env : Env, starEach (e :: es) env = (false, eval e env) :: starEach es env := by intro _; rfl) (hp : ∀ env : Env, ((backTo pos (starEach es env)).any (·.1)) = false := by intro _; rfl) (h1 : (x == ("__debug__" : Str)) = false := by rfl) (h2 : (x == ("__classdict__" : Str)) = false := by rfl) :
    DE M k W N sc (.Call (.Name x p) (e :: es) [] pos) (eNewV i c ns n ff fs) := by
  obtain ⟨C, g, hm, so, mk, F⟩ := h.all
  obtain ⟨ta, pa, sa⟩ := ha
  refine ⟨tNewV M i C n ff (EW W) ta, fun X cx => ⟨fun pins s σ H Q I h => ?_⟩, fun w sv sd st Q rel sl q => ?_⟩
  · have pa := pa X cx
    have hs := hs X.env
    have hp := hp X.env
    have hN : X.N[i]? = some x := by rw [cx.eN]; exact hN
    have hv : Vis X.env.scope x := by rw [cx.es]; exact hv
    obtain ⟨eP, ew, eK, em, eb, eN, eS, ecalm, rm, nd, fn, pass, hla, hgd, hge⟩ := cx
    cases X
    subst eP ew eK em eb
    obtain ⟨hl, h⟩ := h
    refine wpAny_Call_Name_kw (thn ((pe_var (pos := p) (i := i) hN hv h1 h2).run pins s σ H (fun v H1 => v = .ref C ∧ H1 = H) I ⟨.ref C, hl, rfl, rfl⟩) fun u s1 ⟨v, H1, I1, r1, ev, eH⟩ => ?_)
    subst ev
    rw [eH] at I1
    cases r1
    refine PySem.W.callWith_K (h₀ := M.base) I.ok.mod.kin mk.kp (thn (pa.run pos pins s1 σ H _ I1 h) fun us s2 ⟨vs, H2, I2, r, q⟩ => ⟨I2.kIn, ?_⟩) hs hp
    exact mk_run mk F (rm.mono hj) (pass σ) I2 r q
  · unfold eNewV at q
    split at q
    case h_2 => exact q.elim
    rename_i d hd
    split at q
    case isFalse => exact q.elim
    rename_i hc
    subst hc
    obtain ⟨v, e1, rv⟩ := sl.2 i _ hd
    cases rv with
    | glo hg =>
      have hg : M.mg d = _ := hg
      rw [hm] at hg
      cases hg
      exact ⟨e1, se_new hm so sa w sv sd st Q rel sl q⟩
end
end DS
namespace DS
open PySem PySem.Spec PyProof.Rows L2
section
variable {M : Mo} {k : Nat} {W : WX} {N : List Str} {sc : Sc}
variable {e a b o : Expr} {es : List Expr} {f fa fb fo : EE} {fs fr : EA} {pos p apos : Pos} {x m : Str}
theorem run_fnC {X : Cx} {CX : CXT} {k : Nat} {g : Addr} {sp : Sp} {E : XK} {Q : VK} {us : List Value} {vs : List V} {pins : List (Addr × Obj)} {σ : L2.St} {H : Hp} {s : Shared} (F : FnR X.prog X.w X.K X.mg X.base CX k g sp) (hr : Room k X.A) (hx : PassesAt CX X σ E)
    (I : Inv X pins σ H s) (r : Vals vs us) (h : sp vs H Q E) : codeAny (model X.prog X.w) X.A (.call (.ref g) ⟨us, []⟩) (fun r s' => match r with | .ok (.ret v) => EP X pins σ Q v s' | .ok _ => False | .error e => X.xe e s') s := by
  refine codeAny_mono (F X.A X.stack s H us vs Q E hr I.env0 r h) fun res s' hq => ?_
  rcases res with e | fl
  · exact hx pins H s e s' I hq
  · cases fl with
    | ret u => exact I.after hq
    | _ => exact False.elim hq
def HasCM (M : Mo) (c m : Str) (j n : Nat) (ff : FF) : Prop := ∃ C mc q g, M.mg c = some (.ref C) ∧ ClX.CRead M.K C mc ∧ ClX.CMet M.K C mc m q g ∧ FnR M.P M.w M.K M.mg M.base (L2.CX M.P M.w) j g (spD M.G n ff)
def tMeC (M : Mo) (tbl : List (Str × FF)) (n : Nat) (E : L2.St → XK) (ta : TE) (t : TA) : TE := fun σ H Q => ta σ H fun x H1 => ∃ c ff C, (c, ff) ∈ tbl ∧ M.mg c = some (.ref C) ∧ x = .ref C ∧ t σ H1 fun ws H2 => spD M.G n ff (x :: ws) H2 Q (E σ)
def eMeC (tbl : List (Str × FF)) (n : Nat) (fo : EE) (fa : EA) : EE := fun sd st => (fo sd st).bind fun x st1 => match x with
  | .glo c => match tget tbl c with
    | some ff => (fa sd st1).bind fun ds st2 => callD n ff st2 (.glo c :: ds)
    | none => .stk
  | _ => .stk
theorem se_meC {tbl : List (Str × FF)} {n : Nat} {E : L2.St → XK} {to : TE} {ta : TA} (hc : ∀ c ff, (c, ff) ∈ tbl → ∃ C, M.mg c = some (.ref C)) (ho : SE M.G E to fo) (ha : SA M.G E ta fs) : SE M.G E (tMeC M tbl n E to ta) (eMeC tbl n fo fs) := by
  intro w sv sd st Q rel sl h
  refine ho w sv sd st _ rel sl ((Post.bind h).imp ?_)
  rintro x _ ⟨w1, dx, st1, rfl, s1, r1, rx, h1⟩
  have h1 := h1.step anE s1
  cases dx with
  | glo c =>
    replace h1 : Post M.G (RE M.G) w1 (match tget tbl c with
      | some ff => (fs sd st1).bind fun ds st2 => callD n ff st2 (.glo c :: ds)
      | none => .stk) Q (E sv) := h1
    cases q : tget tbl c with
    | none => rw [q] at h1; exact h1.elim
    | some ff =>
      rw [q] at h1
      obtain ⟨C, hC⟩ := hc c ff (tget_mem q)
      have rx' := rx
      cases rx with
      | glo hg =>
        have hg : M.mg c = _ := hg
        rw [hC] at hg
        cases hg
        refine ⟨c, ff, C, tget_mem q, hC, rfl, ?_⟩
        refine ha w1 sv sd st1 _ r1 (sl.step s1) ((Post.bind h1).imp ?_)
        rintro ws _ ⟨w2, ds, st2, rfl, s2, r2, rs, h2⟩
        exact callD_ok r2 (Reps.cons (Rep.step s2 rx') rs) (h2.step anE s2)
  | _ => exact h1.elim
theorem de_cmeth {tbl : List (Str × FF)} {j n : Nat} (pl : Cx → Sem Bool) (ht : ∀ c ff, (c, ff) ∈ tbl → HasCM M c m j n ff) (hj : j ≤ k) (ho : DE M k W N sc o fo) (ha : DA M k W N sc (e :: es) fs)
    (hs : ∀ env : Env, starEach (e :: es) env = (false, eval e env) :: starEach es env := by intro _; rfl) (hp : ∀ env : Env, (backTo pos (starEach es env)).any (·.1) = false := by intro _; rfl)
    (hc : ∀ X : Cx, eval (.Call (.Attribute o m apos) (e :: es) [] pos) X.env = (do
      let ov ← eval o X.env
      standAt apos.atName
      let (f, first) ← holding [ov] (getMethod ov m (pl X))
      callWith pos f first (backTo pos (starEach (e :: es) X.env)) (backToKw pos (keywordEach [] X.env))) := by intro _; rfl) : DE M k W N sc (.Call (.Attribute o m apos) (e :: es) [] pos) (eMeC tbl n fo fs) := by
  obtain ⟨to, po, so⟩ := ho
  obtain ⟨ta, pa, sa⟩ := ha
  refine ⟨tMeC M tbl n (EW W) to ta, fun X c => ⟨fun pins s σ H Q I h => ?_⟩, se_meC (fun c ff z => (ht c ff z).imp fun C z => by obtain ⟨_, _, _, z, _⟩ := z; exact z) so sa⟩
  have po := po X c
  have pa := pa X c
  have hc := hc X
  have hs := hs X.env
  have hp := hp X.env
  obtain ⟨eP, ew, eK, em, eb, eN, eS, ecalm, rm, nd, fn, pass, hla, hgd, hge⟩ := c
  refine PySem.W.methodCall_KW (pl := pl X) (thn (po.run pins s σ H _ I h) fun u s1 ⟨x, H1, I1, rx, c, ff, C, hm, hC, ex, q⟩ => ?_) hc
  obtain ⟨C', mc, qq, g, hC', hrd, hmt, F⟩ := ht c ff hm
  rw [hC] at hC'
  cases hC'
  cases X
  subst eP ew eK em eb
  subst ex
  obtain rfl : u = Value.ref C := rx
  refine ClX.getmethcm_ok I1 hrd hmt fun s2 I2 => ?_
  refine ClX.callwith_cm I2 (ClX.base_none I1 (Nat.le_refl _)) hmt.fi (thn (pa.run pos _ s2 σ H1 _ I2 q) fun us s3 ⟨ws, H2, I3, rv, q2⟩ => ⟨⟨ClX.pin_at I3, I3.kIn⟩, ?_⟩) hs hp
  exact thn (wpAny_call (PySem.W.method_call (ClX.pin_at I3) (run_fnC (us := .ref C :: us) (vs := .ref C :: ws) F (rm.mono hj) (pass σ) I3 (.cons rfl rv) q2))) fun _ _ y => ClX.unpinE y
end
end DS
namespace DS
open PySem PySem.Spec PyProof.Rows L2
section
variable {M : Mo} {k : Nat} {W : WX} {N : List Str} {sc : Sc}
variable {e a b o : Expr} {es : List Expr} {f fa fb fo : EE} {fs fr : EA} {pos p apos : Pos} {x m : Str}
def HasBT (M : Mo) (c : Str) (op : Operator) (j : Nat) (ff : FF) : Prop := ∃ C g rc fo ro, M.mg c = some (.ref C) ∧ PySem.W.selfFirst M.K C = true ∧ PySem.W.findIn M.K (.ref C) (PySem.dunder op.info.2) = some (some (.ref g)) ∧ PySem.W.isFn M.K (.ref g) = true ∧
  PySem.W.findIn M.K (.ref C) (dunderR op.info.2) = some rc ∧ (rc = none ∨ ∃ h : Addr, rc = some (.ref h)) ∧ PySem.W.findIn M.K (.type "int") (PySem.dunder op.info.2) = some fo ∧ PySem.W.findIn M.K (.type "int") (dunderR op.info.2) = some ro ∧
  PySem.W.subIn M.K (.type "int") (.ref C) = some false ∧ FnR M.P M.w M.K M.mg M.base (L2.CX M.P M.w) j g (spD M.G 2 ff)
def rOBT (M : Mo) (tbl : List (Str × FF)) (r0 : R2) (E : L2.St → XK) : L2.St → R2 := fun σ x y H Q => r0 x y H Q ∨ ∃ c ff C a dx vs n, (c, ff) ∈ tbl ∧ M.mg c = some (.ref C) ∧ x = .ref a ∧ y = .int n ∧ SlX.Slt H a C dx vs ∧ spD M.G 2 ff [x, y] H Q (E σ)
def opBT (tbl : List (Str × FF)) (g : Sto → D → D → Option D) (st : Sto) (x y : D) : Res D := match x, y with
  | .obj c fs, .int n => (match tget tbl c with
    | some ff => callD 2 ff st [.obj c fs, .int n]
    | none => .stk)
  | x, y => Res.ofO (g st x y) st
def eOBT (tbl : List (Str × FF)) (g : Sto → D → D → Option D) (fa fb : EE) : EE := fun sd st => (fa sd st).bind fun x st1 => (fb sd st1).bind fun y st2 => opBT tbl g st2 x y
theorem opBT_ok {tbl : List (Str × FF)} {g : Sto → D → D → Option D} {r0 : R2} {E : L2.St → XK} {w : Wd} {st : Sto} {x y : V} {dx dy : D} {σ : L2.St} {Q : VK} (hg : OpD M.G r0 g) (rel : Rel M.G w st) (rx : Rep M.G w.I w.ph x dx) (ry : Rep M.G w.I w.ph y dy)
    (h : Post M.G (RE M.G) w (opBT tbl g st dx dy) Q (E σ)) : rOBT M tbl r0 E σ x y w.H Q := by
  unfold opBT at h
  split at h
  · rename_i c fs n
    cases q : tget tbl c with
    | none => rw [q] at h; exact h.elim
    | some ff =>
      rw [q] at h
      obtain ⟨a, C, d1, vs, rfl, m1, m2, m3, m4⟩ := obj_rep rel rx
      exact .inr ⟨c, ff, C, a, d1, vs, n, tget_mem q, m1, rfl, int_rep ry, m3, callD_ok rel (Reps.cons rx (Reps.cons ry Reps.nil)) h⟩
  · obtain ⟨d, e, h3⟩ := ofO_post h
    exact .inl (hg w st x y dx dy d Q rel rx ry e h3)
theorem se_OBT {tbl : List (Str × FF)} {g : Sto → D → D → Option D} {r0 : R2} {E : L2.St → XK} {ta tb : TE} (hg : OpD M.G r0 g) (ha : SE M.G E ta fa) (hb : SE M.G E tb fb) : SE M.G E (tOS (rOBT M tbl r0 E) ta tb) (eOBT tbl g fa fb) := by
  intro w sv sd st Q rel sl h
  refine ha w sv sd st _ rel sl ((Post.bind h).imp ?_)
  rintro x _ ⟨w1, dx, st1, rfl, s1, r1, rx, h1⟩
  refine hb w1 sv sd st1 _ r1 (sl.step s1) ((Post.bind (h1.step anE s1)).imp ?_)
  rintro y _ ⟨w2, dy, st2, rfl, s2, r2, ry, h2⟩
  exact opBT_ok hg r2 (Rep.step s2 rx) ry (h2.step anE s2)
theorem de_opBT {op : Operator} {tbl : List (Str × FF)} {j : Nat} {g : Sto → D → D → Option D} {r0 : R2} (ht : ∀ c ff, (c, ff) ∈ tbl → HasBT M c op j ff) (hj : j ≤ k) (ho : ∀ X, CK M k W N sc X → OpR X (binaryOp op) r0) (hg : OpD M.G r0 g)
    (ha : DE M k W N sc a fa) (hb : DE M k W N sc b fb) : DE M k W N sc (.BinOp a op b pos) (eOBT tbl g fa fb) := by
  obtain ⟨ta, pa, sa⟩ := ha
  obtain ⟨tb, pb, sb⟩ := hb
  refine ⟨tOS (rOBT M tbl r0 (EW W)) ta tb, fun X c => pe_opS (fun pins s σ H x y v u Q I rx ry h => ?_) (pa X c) (pb X c), se_OBT hg sa sb⟩
  rcases h with h | ⟨c', ff, C, aa, dx, vs, n, hm, hC, ex, ey, hx, q⟩
  · exact ho X c pins s σ H x y v u Q I rx ry h
  · obtain ⟨C', g', rc, fo, ro, hC', h1, h2, h3, h4, h5, h6, h7, h8, F⟩ := ht c' ff hm
    rw [hC] at hC'
    cases hC'
    obtain ⟨eP, ew, eK, em, eb, eN, eS, ecalm, rm, nd, fn, pass, hla, hgd, hge⟩ := c
    cases X
    subst eP ew eK em eb
    subst ex ey
    obtain rfl : v = Value.ref aa := rx
    obtain ⟨t, rfl⟩ := (show ∃ t, u = Value.int n t from ry)
    obtain ⟨sl, od, _, J, _⟩ := SlX.slt_inst I hx
    obtain ⟨mm, hF⟩ := I.fr
    refine PySem.W.ksp_binT (T := "int") hF I.ok.mod.kin J rfl h1 h2 h3 h4 h5 h6 h7 h8 ?_
    refine wpAny_mono (run_fnS (us := [.ref aa, .int n t]) (vs := [.ref aa, .int n]) F (rm.mono hj) (pass σ) I (.cons rfl (.cons ⟨t, rfl⟩ .nil)) q) (fun z s' hz => ?_) fun _ _ z => z
    obtain ⟨z', H', I', rz, qz⟩ := hz
    exact SlX.cmpback rz ⟨z', H', I', rz, qz⟩
theorem de_powO {tbl : List (Str × FF)} {j : Nat} (ht : ∀ c ff, (c, ff) ∈ tbl → HasBT M c .Pow j ff) (hj : j ≤ k) (ha : DE M k W N sc a fa) (hb : DE M k W N sc b fb) : DE M k W N sc (.BinOp a .Pow b pos) (eOBT tbl (ints2 powI) fa fb) := de_opBT ht hj (fun X c => op_pow) d_pow ha hb
theorem de_addO {tbl : List (Str × FF)} {j : Nat} (ht : ∀ c ff, (c, ff) ∈ tbl → HasB M c "__add__" j ff) (hj : j ≤ k) (ha : DE M k W N sc a fa) (hb : DE M k W N sc b fb) : DE M k W N sc (.BinOp a .Add b pos) (eOB tbl addD fa fb) := de_opB (op := .Add) (r0 := rAddD M.K) ht hj (fun X c => by rw [← c.eK]; exact op_addD) d_addD ha hb
theorem de_subO {tbl : List (Str × FF)} {j : Nat} (ht : ∀ c ff, (c, ff) ∈ tbl → HasB M c "__sub__" j ff) (hj : j ≤ k) (ha : DE M k W N sc a fa) (hb : DE M k W N sc b fb) : DE M k W N sc (.BinOp a .Sub b pos) (eOB tbl (ints2 fun i j => some (.int (i - j))) fa fb) := de_opB (op := .Sub) ht hj (fun X c => op_sub) d_sub ha hb
theorem de_mulO {tbl : List (Str × FF)} {j : Nat} (ht : ∀ c ff, (c, ff) ∈ tbl → HasB M c "__mul__" j ff) (hj : j ≤ k) (ha : DE M k W N sc a fa) (hb : DE M k W N sc b fb) : DE M k W N sc (.BinOp a .Mult b pos) (eOB tbl mulD fa fb) := de_opB (op := .Mult) (r0 := rMulD M.K) ht hj (fun X c => by rw [← c.eK]; exact op_mulD) d_mulD ha hb
theorem de_fdivO {tbl : List (Str × FF)} {j : Nat} (ht : ∀ c ff, (c, ff) ∈ tbl → HasB M c "__floordiv__" j ff) (hj : j ≤ k) (ha : DE M k W N sc a fa) (hb : DE M k W N sc b fb) : DE M k W N sc (.BinOp a .FloorDiv b pos) (eOB tbl (ints2 divI) fa fb) := de_opB (op := .FloorDiv) ht hj (fun X c => op_fdivW) d_fdiv ha hb
end
end DS
namespace DS
open PySem PySem.Spec PyProof.Rows L2
def numS (i : Int) : Str := Str.ofString (toString i)
end DS
namespace DS
open PySem PySem.Spec PyProof.Rows L2
end DS
namespace DS
open PySem PySem.Spec PyProof.Rows L2
end DS
namespace DS
open PySem PySem.Spec PyProof.Rows L2
def ref1 : Option (Option Value) → Option Addr
  | some (some (.ref p)) => some p
  | _ => none
theorem ref1_ok {o : Option (Option Value)} {p : Addr} (h : ref1 o = some p) : o = some (some (.ref p)) := by
  unfold ref1 at h
  split at h
  · cases h; rfl
  · cases h
def slotB (K : PySem.W.Frag) (C : Addr) (f : Str) (i : Nat) : Bool := match ref1 (PySem.W.findIn K (.ref C) f) with
  | some p => PySem.W.specialIn K (.ref p) "__get__" == some (some (.builtin "member_descriptor.__get__")) && (PySem.W.takesIn K (.ref p) == some true && (PySem.W.typeIn K (.ref p) == some (.type "member_descriptor") && (PySem.W.slotIn K p C == some i && decide (i < 1000))))
  | none => false
theorem slotB_ok {K : PySem.W.Frag} {C : Addr} {f : Str} {i : Nat} (h : slotB K C f i = true) : ∃ p, SlX.Slot1 K C f p i := by
  unfold slotB at h
  split at h
  · rename_i p e
    simp only [Bool.and_eq_true, beq_iff_eq, decide_eq_true_eq] at h
    exact ⟨p, ref1_ok e, h.1, h.2.1, h.2.2.1, h.2.2.2.1, h.2.2.2.2⟩
  · cases h
def clsB (K : PySem.W.Frag) (C : Addr) : Bool := PySem.W.plainGet K C Str.empty && (PySem.W.isClsIn K C && (PySem.W.plainOver K C && (PySem.W.findIn K (.ref C) "__setattr__" == some (some (.builtin "object.__setattr__")) &&
  (PySem.W.findIn K (.ref C) "__class__" == some (some (.builtin "object.__class__")) && (PySem.W.specialIn K (.builtin "object.__class__") "__get__" == some (some (.builtin "getset_descriptor.__get__")) && (PySem.W.takesIn K (.builtin "object.__class__") == some true && PySem.W.mroIn K C (.type "object") == some true))))))
theorem clsB_ok {K : PySem.W.Frag} {C : Addr} (h : clsB K C = true) : SlX.SCls K C ∧ SlX.SIsi K C := by
  unfold clsB at h
  simp only [Bool.and_eq_true, beq_iff_eq] at h
  exact ⟨⟨h.1, h.2.1, h.2.2.1, h.2.2.2.1⟩, ⟨h.2.2.2.2.1, h.2.2.2.2.2.1, h.2.2.2.2.2.2.1, h.2.2.2.2.2.2.2⟩⟩
def methB (K : PySem.W.Frag) (C : Addr) (m : Str) (g : Addr) : Bool := ref1 (PySem.W.findIn K (.ref C) m) == some g && (PySem.W.isFn K (.ref g) && PySem.W.keepIn K (.ref g))
theorem methB_ok {K : PySem.W.Frag} {C g : Addr} {m : Str} (h : methB K C m g = true) : Meth K C m g := by
  unfold methB at h
  simp only [Bool.and_eq_true, beq_iff_eq] at h
  exact ⟨ref1_ok h.1, h.2.1, h.2.2⟩
def propB (K : PySem.W.Frag) (C : Addr) (m : Str) (g : Addr) : Bool := match ref1 (PySem.W.findIn K (.ref C) m) with
  | some q => PySem.W.specialIn K (.ref q) "__get__" == some (some (.builtin "property.__get__")) && (PySem.W.takesIn K (.ref q) == some true && ((PySem.W.recIn K q "property").bind (·.head?)) == some (.ref g))
  | none => false
theorem propB_ok {K : PySem.W.Frag} {C g : Addr} {m : Str} (h : propB K C m g = true) : ∃ q, PySem.W.findIn K (.ref C) m = some (some (.ref q)) ∧ PySem.W.specialIn K (.ref q) "__get__" = some (some (.builtin "property.__get__")) ∧ PySem.W.takesIn K (.ref q) = some true ∧ ∃ rest, PySem.W.recIn K q "property" = some (.ref g :: rest) := by
  unfold propB at h
  split at h
  · rename_i q e
    simp only [Bool.and_eq_true, beq_iff_eq] at h
    refine ⟨q, ref1_ok e, h.1, h.2.1, ?_⟩
    have z := h.2.2
    cases y : PySem.W.recIn K q "property" with
    | none => rw [y] at z; cases z
    | some l =>
      rw [y] at z
      cases l with
      | nil => cases z
      | cons v r =>
        have z : some v = some (Value.ref g) := z
        cases z
        exact ⟨r, rfl⟩
  · cases h
def mkB (K : PySem.W.Frag) (C g : Addr) : Bool := PySem.W.makesIn K C && (ref1 (PySem.W.findIn K (.ref C) "__init__") == some g && (PySem.W.isFn K (.ref g) && PySem.W.keepIn K (.ref C)))
theorem mkB_ok {K : PySem.W.Frag} {C g : Addr} (h : mkB K C g = true) : Mk K C g := by
  unfold mkB at h
  simp only [Bool.and_eq_true, beq_iff_eq] at h
  exact ⟨h.1, ref1_ok h.2.1, h.2.2.1, h.2.2.2⟩
def unB (K : PySem.W.Frag) (C : Addr) (m : Str) (g : Addr) : Bool := ref1 (PySem.W.findIn K (.ref C) m) == some g && PySem.W.isFn K (.ref g)
theorem unB_ok {K : PySem.W.Frag} {C g : Addr} {m : Str} (h : unB K C m g = true) : PySem.W.findIn K (.ref C) m = some (some (.ref g)) ∧ PySem.W.isFn K (.ref g) = true := by
  unfold unB at h
  simp only [Bool.and_eq_true, beq_iff_eq] at h
  exact ⟨ref1_ok h.1, h.2⟩
def eqB2 (K : PySem.W.Frag) (C g : Addr) : Bool := unB K C "__eq__" g && (PySem.W.findIn K (.ref C) "__ne__" == some (some (.builtin "object.__ne__")) && eqTypes.all fun t => PySem.W.notFirst K C (.type t))
theorem eqB2_ok {K : PySem.W.Frag} {C g : Addr} (h : eqB2 K C g = true) : PySem.W.findIn K (.ref C) "__eq__" = some (some (.ref g)) ∧ PySem.W.isFn K (.ref g) = true ∧ PySem.W.findIn K (.ref C) "__ne__" = some (some (.builtin "object.__ne__")) ∧ ∀ t ∈ eqTypes, PySem.W.notFirst K C (.type t) = true := by
  unfold eqB2 at h
  simp only [Bool.and_eq_true, beq_iff_eq] at h
  obtain ⟨h1, h2⟩ := unB_ok h.1
  exact ⟨h1, h2, h.2.1, List.all_eq_true.mp h.2.2⟩
end DS
namespace DS
open PySem PySem.Spec PyProof.Rows L2
def prA (K : PySem.W.Frag) (C : Addr) (m : Str) : Addr := match ref1 (PySem.W.findIn K (.ref C) m) with
  | some q => (match (PySem.W.recIn K q "property").bind (·.head?) with
    | some (.ref g) => g
    | _ => 0)
  | none => 0
def cmP (K : PySem.W.Frag) (C : Addr) (m : Str) : Addr := match PySem.W.findCls K (.ref C) (.type "type") m with
  | some (.get _ (.ref p) _ _) => p
  | _ => 0
def cmA (K : PySem.W.Frag) (C : Addr) (m : Str) : Addr := match (PySem.W.recIn K (cmP K C m) "classmethod").bind (·.head?) with
  | some (.ref g) => g
  | _ => 0
structure DefA where
  path : PySem.W.Frag → Addr
  name : Str
  qual : Str
  params : Arguments
  body : List Stmt
  scope : Scope
  dfl : List He.Dv := []
  kwd : List (Str × He.Dv) := []
def fnA (K : PySem.W.Frag) (a : Addr) : He.FnW := match K.lookup a with
  | some ⟨_, _, .func fd, _⟩ => some (fd.name, fd.qualname, fd.params, fd.body, fd.scope, fd.globals, fd.closure, fd.builtins)
  | _ => none
def DefA.val (d : DefA) : He.FnW := some (d.name, d.qual, d.params, .stmts d.body, d.scope, mainGlobals, [], builtinsNs)
def DefA.dvs (K : PySem.W.Frag) (d : DefA) : List V := d.dfl.map (He.Dv.v K)
def DefA.kws (K : PySem.W.Frag) (d : DefA) : List (Str × V) := d.kwd.map fun q => (q.1, q.2.v K)
def DefA.ok (K : PySem.W.Frag) (d : DefA) : Bool := PySem.W.keepIn K (.ref (d.path K)) && (match K.lookup (d.path K) with
  | some ⟨_, _, .func fd, _⟩ => PySem.W.codeIn K fd.code d.qual && (He.dflB K fd.defaults (d.dvs K) && He.kwdB K fd.kwdefaults (d.kws K))
  | _ => false)
theorem DefA.funD {K : PySem.W.Frag} {d : DefA} (e : fnA K (d.path K) = d.val) (c : d.ok K = true) : ∃ fd, FunD K d.name d.qual d.params d.body d.scope (d.dvs K) (d.kws K) (d.path K) fd := by
  obtain ⟨kp, c2⟩ := He.ba c
  unfold fnA at e
  cases q : K.lookup (d.path K) with
  | none =>
    rw [q] at c2
    cases c2
  | some o =>
    obtain ⟨oc, od, dt, osl⟩ := o
    rw [q] at c2 e
    cases dt with
    | func fd =>
      obtain ⟨n1, n2, n3, n4, n5, n6, n7, n8, n9, n10, n11, n12, n13, n14, n15⟩ := fd
      have e2 : (some (n1, n2, n3, n4, n5, n6, n7, n15) : He.FnW) = some (d.name, d.qual, d.params, .stmts d.body, d.scope, mainGlobals, [], builtinsNs) := e
      simp only [Option.some.injEq, Prod.mk.injEq] at e2
      obtain ⟨h1, h2, h3, h4, h5, h6, h7, h8⟩ := e2
      subst h1 h2 h3 h4 h5 h6 h7 h8
      have c3 : (PySem.W.codeIn K n13 d.qual && (He.dflB K n8 (d.dvs K) && He.kwdB K n9 (d.kws K))) = true := c2
      obtain ⟨k1, k2⟩ := He.ba c3
      obtain ⟨k3, k4⟩ := He.ba k2
      exact ⟨_, ⟨oc, od, n8, n9, n10, n11, n12, n13, n14, osl, rfl, q, k1, He.dflB_ok k3, He.kwdB_ok k4⟩, kp⟩
    | _ => cases c2
abbrev Bk := PySem.W.Frag → Bool
def obsA (fa : List He.Fa) (ex : List Bk) (fn : List DefA) (K : PySem.W.Frag) : He.AlD := ((fa.all fun f => f.ok K) && ((ex.all fun b => b K) && fn.all fun d => d.ok K), fn.map fun d => fnA K (d.path K))
def valA (fn : List DefA) : He.AlD := (true, fn.map DefA.val)
def SaysA (fa : List He.Fa) (ex : List Bk) (fn : List DefA) (K : PySem.W.Frag) : Prop := obsA fa ex fn K = valA fn
inductive NSet where
  | nil
  | node (b : Bool) (l r : NSet)
def NSet.has : NSet → Nat → Bool
  | .nil, _ => false
  | .node b l r, i => match Nat.beq i 0 with
    | true => b
    | false => match Nat.beq (i % 2) 1 with
      | true => l.has (i / 2)
      | false => r.has (i / 2 - 1)
def frN {α : Type} (n : Nat) (k : Nat → α) : α := match n with
  | 0 => k 0
  | m + 1 => k (m + 1)
theorem frN_eq {α : Type} (n : Nat) (k : Nat → α) : frN n k = k n := by cases n <;> rfl
def NSet.addK {α : Type} : Nat → NSet → Nat → (NSet → α) → α
  | 0, t, _, k => k t
  | n + 1, t, i, k => match Nat.beq i 0 with
    | true => (match t with
      | .nil => k (.node true .nil .nil)
      | .node _ l r => k (.node true l r))
    | false => match Nat.beq (i % 2) 1 with
      | true => frN (i / 2) fun j => (match t with
        | .nil => NSet.addK n .nil j fun l => k (.node false l .nil)
        | .node b l r => NSet.addK n l j fun l => k (.node b l r))
      | false => frN (i / 2 - 1) fun j => (match t with
        | .nil => NSet.addK n .nil j fun r => k (.node false .nil r)
        | .node b l r => NSet.addK n r j fun r => k (.node b l r))
theorem NSet.addK_eq {α : Type} : ∀ (n : Nat) (t : NSet) (i : Nat) (k : NSet → α), ∃ t', NSet.addK n t i k = k t'
  | 0, t, _, k => ⟨t, rfl⟩
  | n + 1, t, i, k => by
    unfold NSet.addK
    split
    · split <;> exact ⟨_, rfl⟩
    · split
      · rw [frN_eq]
        split
        · obtain ⟨t', e⟩ := NSet.addK_eq n .nil (i / 2) fun l => k (.node false l .nil)
          exact ⟨_, e⟩
        · rename_i b l r
          obtain ⟨t', e⟩ := NSet.addK_eq n l (i / 2) fun l => k (.node b l r)
          exact ⟨_, e⟩
      · rw [frN_eq]
        split
        · obtain ⟨t', e⟩ := NSet.addK_eq n .nil (i / 2 - 1) fun r => k (.node false .nil r)
          exact ⟨_, e⟩
        · rename_i b l r
          obtain ⟨t', e⟩ := NSet.addK_eq n r (i / 2 - 1) fun r => k (.node b l r)
          exact ⟨_, e⟩
/-- one step: what the addresses as hold, and where they lead -/
def visit {α : Type} (g : Addr → Option Obj) : List Addr → NSet → PySem.W.Frag → List Addr → (NSet → PySem.W.Frag → List Addr → α) → α
  | [], t, acc, nx, k => k t acc nx
  | a :: r, t, acc, nx, k => frN a fun a => match t.has a with
    | true => visit g r t acc nx k
    | false => NSet.addK 40 t a fun t => match g a with
      | none => visit g r t acc nx k
      | some o => visit g r t ((a, o) :: acc) (He.refsD o ++ nx) k
def InG (g : Addr → Option Obj) (K : PySem.W.Frag) : Prop := ∀ a o, (a, o) ∈ K → g a = some o
theorem visit_eq {α : Type} {g : Addr → Option Obj} : ∀ (as : List Addr) (t : NSet) (acc : PySem.W.Frag) (nx : List Addr) (k : NSet → PySem.W.Frag → List Addr → α), InG g acc → ∃ t' acc' nx', InG g acc' ∧ visit g as t acc nx k = k t' acc' nx'
  | [], t, acc, nx, k, h => ⟨t, acc, nx, h, rfl⟩
  | a :: r, t, acc, nx, k, h => by
    unfold visit
    rw [frN_eq]
    split
    · exact visit_eq r t acc nx k h
    · obtain ⟨t', e⟩ := NSet.addK_eq 40 t a fun t => match g a with
        | none => visit g r t acc nx k
        | some o => visit g r t ((a, o) :: acc) (He.refsD o ++ nx) k
      rw [e]
      split
      · exact visit_eq r t' acc nx k h
      · rename_i o e
        refine visit_eq r t' _ _ k fun b u m => ?_
        rcases List.mem_cons.mp m with z | z
        · cases z; exact e
        · exact h b u z
def walkG {α : Type} (g : Addr → Option Obj) : Nat → List Addr → NSet → PySem.W.Frag → (PySem.W.Frag → α) → α
  | 0, _, _, acc, k => k acc
  | n + 1, as, t, acc, k => visit g as t acc [] fun t acc nx => walkG g n nx t acc k
theorem walkG_eq {α : Type} {g : Addr → Option Obj} : ∀ (n : Nat) (as : List Addr) (t : NSet) (acc : PySem.W.Frag) (k : PySem.W.Frag → α), InG g acc → ∃ acc', InG g acc' ∧ walkG g n as t acc k = k acc'
  | 0, as, t, acc, k, h => ⟨acc, h, rfl⟩
  | n + 1, as, t, acc, k, h => by
    obtain ⟨t', acc', nx', h', e⟩ := visit_eq as t acc [] (fun t acc nx => walkG g n nx t acc k) h
    obtain ⟨acc2, h2, e2⟩ := walkG_eq n nx' t' acc' k h'
    exact ⟨acc2, h2, e.trans e2⟩
theorem lookup_mem : ∀ {K : PySem.W.Frag} {a : Addr} {o : Obj}, K.lookup a = some o → (a, o) ∈ K
  | [], a, o, h => nomatch (show (none : Option Obj) = some o from h)
  | (b, ob) :: r, a, o, h => by
    have e2 : (match a == b with | true => some ob | false => List.lookup a r) = some o := h
    cases q : (a == b) with
    | true =>
      rw [q] at e2
      cases e2
      rw [beq_iff_eq.mp q]
      exact List.mem_cons_self
    | false =>
      rw [q] at e2
      exact List.mem_cons_of_mem _ (lookup_mem e2)
theorem inG_in {h : Heap} {K : PySem.W.Frag} (k : InG h.get? K) : K.In h := fun a o e => k a o (lookup_mem e)
/-- what was found first comes first -/
def revK {α : Type} (K : PySem.W.Frag) (k : PySem.W.Frag → α) : α := match K.reverse with
  | [] => k []
  | x :: r => k (x :: r)
theorem revK_eq {α : Type} (K : PySem.W.Frag) (k : PySem.W.Frag → α) : revK K k = k K.reverse := by
  unfold revK
  split <;> rename_i e <;> rw [e]
section
variable {fa : List He.Fa} {ex : List Bk} {fn : List DefA} {K : PySem.W.Frag}
theorem SaysA.b (c : SaysA fa ex fn K) : ((fa.all fun f => f.ok K) && ((ex.all fun b => b K) && fn.all fun d => d.ok K)) = true := congrArg (fun z : He.AlD => z.1) c
theorem SaysA.fact (c : SaysA fa ex fn K) (i : Nat) {f : He.Fa} (h : fa[i]? = some f := by rfl) : f.ok K = true := List.all_eq_true.mp (He.ba c.b).1 f (List.mem_of_getElem? h)
theorem SaysA.bk (c : SaysA fa ex fn K) (i : Nat) {b : Bk} (h : ex[i]? = some b := by rfl) : b K = true := List.all_eq_true.mp (He.ba (He.ba c.b).2).1 b (List.mem_of_getElem? h)
theorem SaysA.def_ (c : SaysA fa ex fn K) (i : Nat) {d : DefA} (h : fn[i]? = some d := by rfl) : ∃ fd, FunD K d.name d.qual d.params d.body d.scope (d.dvs K) (d.kws K) (d.path K) fd := by
  have c2 := (He.ba (He.ba c.b).2).2
  have e : fn.map (fun d => fnA K (d.path K)) = fn.map DefA.val := congrArg (fun z : He.AlD => z.2) c
  have e2 : (fn.map fun d => fnA K (d.path K))[i]? = (fn.map DefA.val)[i]? := by rw [e]
  rw [List.getElem?_map, List.getElem?_map, h] at e2
  exact DefA.funD (Option.some.inj e2) (List.all_eq_true.mp c2 d (List.mem_of_getElem? h))
end
def sobB (c : Str) (ns : List Str) : Bk := fun K => clsB K (He.ga K c) && ns.zipIdx.all fun q => slotB K (He.ga K c) q.1 q.2
theorem sob_ok {G : Md} {c : Str} {ns : List Str} (h : sobB c ns G.K = true) : SObj G (He.ga G.K c) ns := by
  obtain ⟨h1, h2⟩ := He.ba h
  obtain ⟨k1, k2⟩ := clsB_ok h1
  refine ⟨k1, k2, fun i f e => slotB_ok (List.all_eq_true.mp h2 (f, i) ?_)⟩
  rw [List.mem_zipIdx_iff_getElem?]
  exact e
def methK (c m : Str) : Bk := fun K => methB K (He.ga K c) m (He.ma K (He.ga K c) m)
def propK (c m : Str) : Bk := fun K => propB K (He.ga K c) m (prA K (He.ga K c) m)
def mkK (c : Str) : Bk := fun K => mkB K (He.ga K c) (He.ma K (He.ga K c) "__init__")
def unK (c m : Str) : Bk := fun K => unB K (He.ga K c) m (He.ma K (He.ga K c) m)
def eqK (c : Str) : Bk := fun K => eqB2 K (He.ga K c) (He.ma K (He.ga K c) "__eq__")
def binK (c m : Str) : Bk := fun K => PySem.W.selfFirst K (He.ga K c) && unB K (He.ga K c) m (He.ma K (He.ga K c) m)
def cmK (c m : Str) : Bk := fun K => PySem.W.readsIn K (He.ga K c) (.type "type") && (PySem.W.specialIn K (.ref (He.ga K c)) "__getattribute__" == some (some (.builtin "type.__getattribute__")) &&
  (PySem.W.fnIn K (cmA K (He.ga K c) m) && (((PySem.W.recIn K (cmP K (He.ga K c) m) "classmethod").bind (·.head?)) == some (.ref (cmA K (He.ga K c) m)) &&
  (match PySem.W.findCls K (.ref (He.ga K c)) (.type "type") m with
    | some (.get (.builtin b) (.ref p) .none (.ref D)) => b == "classmethod.__get__" && (p == cmP K (He.ga K c) m && D == He.ga K c)
    | _ => false))))
def btK (c : Str) (op : Operator) : Bk := fun K => PySem.W.selfFirst K (He.ga K c) && (unB K (He.ga K c) (PySem.dunder op.info.2) (He.ma K (He.ga K c) (PySem.dunder op.info.2)) &&
  ((match PySem.W.findIn K (.ref (He.ga K c)) (dunderR op.info.2) with
    | some none => true
    | some (some (.ref _)) => true
    | _ => false) && ((PySem.W.findIn K (.type "int") (PySem.dunder op.info.2)).isSome && ((PySem.W.findIn K (.type "int") (dunderR op.info.2)).isSome && PySem.W.subIn K (.type "int") (.ref (He.ga K c)) == some false))))
def isiK (cs : List Str) : Bk := fun K => cs.all fun c => (eqTypes.all fun t => PySem.W.kitOne K (.type t) (.ref (He.ga K c)) == some false && PySem.W.kitOne K (.ref (He.ga K c)) (.type t) == some false) &&
  cs.all fun d => PySem.W.kitOne K (.ref (He.ga K c)) (.ref (He.ga K d)) == some (decide (c = d))
section
variable {M : Mo} {c m : Str} {j j' n : Nat} {ff : FF}
abbrev Mo.A (M : Mo) (c : Str) : Addr := He.ga M.K c
def FnA (M : Mo) (j : Nat) (g : Addr) (n : Nat) (ff : FF) : Prop := FnR M.P M.w M.K M.mg M.base (L2.CX M.P M.w) j g (spD M.G n ff)
theorem FnA.mono (h : FnA M j (He.ga M.K c) n ff) (hj : j ≤ j') : FnA M j' (He.ga M.K c) n ff := FnR.mono h hj
theorem hasM_of (hm : M.mg c = some (.ref (He.ga M.K c))) (hk : methK c m M.K = true) (F : FnA M j (He.ma M.K (He.ga M.K c) m) n ff) (hj : j ≤ j') : HasM M c m j' n ff := ⟨_, _, hm, methB_ok hk, FnR.mono F hj⟩
theorem hasP_of (hm : M.mg c = some (.ref (He.ga M.K c))) (hk : propK c m M.K = true) (F : FnA M j (prA M.K (He.ga M.K c) m) 1 ff) (hj : j ≤ j') : HasP M c m j' ff := by
  obtain ⟨q, h1, h2, h3, h4⟩ := propB_ok hk
  exact ⟨_, q, _, hm, h1, h2, h3, h4, FnR.mono F hj⟩
theorem hasC_of {ns : List Str} (hm : M.mg c = some (.ref (He.ga M.K c))) (hs : sobB c ns M.K = true) (hk : mkK c M.K = true) (F : FnA M j (He.ma M.K (He.ga M.K c) "__init__") n ff) (hj : j ≤ j') : HasC M c ns j' n ff := ⟨⟨_, _, hm, sob_ok hs, mkB_ok hk, FnR.mono F hj⟩⟩
theorem hasU_of (hm : M.mg c = some (.ref (He.ga M.K c))) (hk : unK c m M.K = true) (F : FnA M j (He.ma M.K (He.ga M.K c) m) 1 ff) (hj : j ≤ j') : HasU M c m j' ff := by
  obtain ⟨h1, h2⟩ := unB_ok hk
  exact ⟨_, _, hm, h1, h2, FnR.mono F hj⟩
theorem hasB_of (hm : M.mg c = some (.ref (He.ga M.K c))) (hk : binK c m M.K = true) (F : FnA M j (He.ma M.K (He.ga M.K c) m) 2 ff) (hj : j ≤ j') : HasB M c m j' ff := by
  obtain ⟨h0, h⟩ := He.ba hk
  obtain ⟨h1, h2⟩ := unB_ok h
  exact ⟨_, _, hm, h0, h1, h2, FnR.mono F hj⟩
theorem hasE_of (hm : M.mg c = some (.ref (He.ga M.K c))) (hk : eqK c M.K = true) (F : FnA M j (He.ma M.K (He.ga M.K c) "__eq__") 2 ff) (hj : j ≤ j') : HasE M c j' ff := by
  obtain ⟨h1, h2, h3, h4⟩ := eqB2_ok hk
  exact ⟨_, _, hm, h1, h2, h3, h4, FnR.mono F hj⟩
theorem hasCM_of (hm : M.mg c = some (.ref (He.ga M.K c))) (hk : cmK c m M.K = true) (F : FnA M j (cmA M.K (He.ga M.K c) m) n ff) (hj : j ≤ j') : HasCM M c m j' n ff := by
  obtain ⟨h1, h⟩ := He.ba hk
  obtain ⟨h2, h⟩ := He.ba h
  obtain ⟨h3, h⟩ := He.ba h
  obtain ⟨h4, h5⟩ := He.ba h
  refine ⟨_, .type "type", cmP M.K (He.ga M.K c) m, _, hm, ⟨h1, eq_of_beq h2⟩, ⟨?_, ?_, h3⟩, FnR.mono F hj⟩
  · split at h5
    · rename_i b p D e
      simp only [Bool.and_eq_true, beq_iff_eq] at h5
      rw [e, h5.1, h5.2.1, h5.2.2]
    · cases h5
  · have h4 := eq_of_beq h4
    cases q : PySem.W.recIn M.K (cmP M.K (He.ga M.K c) m) "classmethod" with
    | none => rw [q] at h4; cases h4
    | some l =>
      rw [q] at h4
      cases l with
      | nil => cases h4
      | cons v r =>
        have h4 : some v = some (Value.ref (cmA M.K (He.ga M.K c) m)) := h4
        cases h4
        exact ⟨r, rfl⟩
theorem hasBT_of {op : Operator} (hm : M.mg c = some (.ref (He.ga M.K c))) (hk : btK c op M.K = true) (F : FnA M j (He.ma M.K (He.ga M.K c) (PySem.dunder op.info.2)) 2 ff) (hj : j ≤ j') : HasBT M c op j' ff := by
  obtain ⟨h0, h⟩ := He.ba hk
  obtain ⟨h1, h⟩ := He.ba h
  obtain ⟨h2, h⟩ := He.ba h
  obtain ⟨h3, h⟩ := He.ba h
  obtain ⟨h4, h5⟩ := He.ba h
  obtain ⟨k1, k2⟩ := unB_ok h1
  obtain ⟨fo, e3⟩ := Option.isSome_iff_exists.mp h3
  obtain ⟨ro, e4⟩ := Option.isSome_iff_exists.mp h4
  split at h2
  · rename_i e
    exact ⟨_, _, none, fo, ro, hm, h0, k1, k2, e, .inl rfl, e3, e4, eq_of_beq h5, FnR.mono F hj⟩
  · rename_i a e
    exact ⟨_, _, some (.ref a), fo, ro, hm, h0, k1, k2, e, .inr ⟨a, rfl⟩, e3, e4, eq_of_beq h5, FnR.mono F hj⟩
  · cases h2
theorem hasI_of {cs : List Str} (hm : ∀ c ∈ cs, M.mg c = some (.ref (He.ga M.K c))) (hk : isiK cs M.K = true) : HasI M cs := by
  have h := List.all_eq_true.mp hk
  refine ⟨fun c hc => ⟨_, hm c hc, fun t ht => ?_, fun t ht => ?_⟩, fun c hc d hd C D e1 e2 => ?_⟩
  · have z := He.ba (List.all_eq_true.mp (He.ba (h c hc)).1 t ht)
    exact eq_of_beq z.1
  · have z := He.ba (List.all_eq_true.mp (He.ba (h c hc)).1 t ht)
    exact eq_of_beq z.2
  · rw [hm c hc] at e1
    rw [hm d hd] at e2
    cases e1
    cases e2
    exact eq_of_beq (List.all_eq_true.mp (He.ba (h c hc)).2 d hd)
/-- a def of a class as it is called -/
theorem fnA_of {fa : Addr} {fd : FuncData} {ps : List Str} {k : Nat} (F : FnOk M.P M.w M.K M.mg M.base (L2.CX M.P M.w) k fa fd ps (spD M.G n ff)) (hb : Binds M.K fd ps []) : FnA M k fa n ff :=
  FnR.imp (F.raw hb .nil) fun vs H Q E h => by rw [List.append_nil]; exact h
end
section
variable {M : Mo} {k : Nat} {W : WX} {N : List Str} {sc : Sc} {x : Str} {pos : Pos}
theorem de_cls (h : ∃ C, M.mg x = some (.ref C)) (hg : ∀ env : Env, ({ env with scope := sc.v } : Env).kindOf x = some .globalImplicit := by intro _; rfl) (h1 : (x == ("__debug__" : Str)) = false := by rfl) : DE M k W N sc (.Name x pos) (eC (.glo x)) := by
  obtain ⟨C, hC⟩ := h
  exact de_glob ⟨.ref C, _, hC, rfl, fun _ _ => .glo hC⟩ hg h1
end
end DS
namespace DS
open PySem PySem.Spec PyProof.Rows L2
end DS
namespace DS
open PySem PySem.Spec PyProof.Rows L2
end DS
namespace DS
open PySem PySem.Spec PyProof.Rows L2
structure FnG (P : Program) (w : World) (K : PySem.W.Frag) (mg : Str → Option Value) (base : Heap) (CX : CXT) (k : Nat) (f : Addr) (fd : FuncData) (ps : List Str) (sp : Sp) : Prop where
  len : ∀ vs H Q E, sp vs H Q E → vs.length = ps.length
  run : ∀ (A : Around) (outer : List Env) (s : Shared) (H : Hp) (args : Args) (us : List Value) (vs : List V) (Q : VK) (E : XK), Room k A → A.guards = some [] → Env0 P w K mg base A outer s H → BindsTo s fd args (ps.zip us) → Vals vs us →
    sp vs H Q E → codeAny (model P w) A (.call (.ref f) args) (CR CX outer P w H s Q E) s
theorem FnG.of {P : Program} {w : World} {K : PySem.W.Frag} {mg : Str → Option Value} {base : Heap} {CX : CXT} {k : Nat} {f : Addr} {fd : FuncData} {ps : List Str} {sp : Sp} (F : FnOk P w K mg base CX k f fd ps sp) : FnG P w K mg base CX k f fd ps sp :=
  ⟨F.len, fun A outer s H args us vs Q E hr _ e b v h => F.run A outer s H args us vs Q E hr e b v h⟩
/-- the address of a def's code object -/
def cdA (K : PySem.W.Frag) (f : Addr) : Addr := match K.lookup f with
  | some ⟨_, _, .func fd, _⟩ => (match fd.code with
    | .ref c => c
    | _ => 0)
  | _ => 0
theorem codeIn_ref {K : PySem.W.Frag} {cd : Value} {q : Str} (h : PySem.W.codeIn K cd q = true) : ∃ c, cd = .ref c := by
  cases cd with
  | ref c => exact ⟨c, rfl⟩
  | _ => cases h
section
variable {M : Mo} {k : Nat} {N : List Str} {x : Str}
theorem cs_defG {cd : Value} {P : Program} {T : List (Addr × Str)} {w : World} {K : PySem.W.Frag} {mg : Str → Option Value} {base : Heap} {N : List Str} {qual : Str} {sc : Scope} {la : Option (Addr × Addr × Str)} {f : Addr} {A : Around} {outer : List Env} {s : Shared} {H : Hp} {E : XK} {k : Nat} (hnd : N.Nodup) (hr : Room k (A.deeper (envOfC qual sc s.heap.objs.size f cd)))
    (hg : A.guards = some []) (hla : ∀ c T' q, la = some (c, T', q) → cd = .ref c ∧ qual ++ ".<locals>." = q ∧ LaOk ⟨P, w, K, mg, base, T⟩ c T' q) :
    CS ⟨P, w, K, mg, base, T⟩ k (fun cls d _ H => E cls d H) N ⟨sc, sc, la, true, none⟩ (cxOf (L2.CX P w) P w K mg base N qual sc f cd A outer s H E) where
  eP := rfl
  ew := rfl
  eK := rfl
  em := rfl
  eb := rfl
  eN := rfl
  es := rfl
  calm := rfl
  rm := hr
  nd := hnd
  fn := fun _ _ => .inl rfl
  pass := fun σ => passAt (takes_of rfl rfl rfl rfl) σ
  la := hla
  gd := fun _ => hg
  ge := fun _ _ _ z => nomatch z
  hp := passes_of rfl
  tk := takes_of rfl rfl rfl rfl
  sk := rfl
  frm := rfl
theorem fn_okG {qual : Str} {params : Arguments} {body : List Stmt} {dvs : List V} {kws : List (Str × V)} {fa : Addr} {fd : FuncData} {ps : List Str} {nl : Nat} {g : SS} {S0 : Scope} {la : Option (Addr × Addr × Str)} (F : FunD M.K x qual params body S0 dvs kws fa fd) (S : FnScope N ps S0) (hN : N.length = ps.length + nl)
    (hla : ∀ c T' q, la = some (c, T', q) → cdA M.K fa = c ∧ qual ++ ".<locals>." = q ∧ LaOk M c T' q) (hb : ∀ W, DB M k W N ⟨S0, S0, la, true, none⟩ body g) :
    FnG M.P M.w M.K M.mg M.base (L2.CX M.P M.w) (k + 1) fa fd ps (spD M.G ps.length (fnD nl g)) := by
  obtain ⟨oc, od, dV, kV, doc, pm, an, cdv, ct, osl, rfl, lk, hcd, _, _⟩ := F.ex
  refine ⟨fun vs H Q E h => h.1, fun A outer s H args us vs Q E hr hg e b v h => ?_⟩
  refine LamX.run_ofS lk hcd S hr e b v h.1 fun hr' => ?_
  obtain ⟨t, pt, st⟩ := hb (fun cls d _ H => E cls d H)
  refine ⟨t, pt _ (cs_defG S.nd hr' hg fun c T' q z => ?_), ?_⟩
  · obtain ⟨z1, z2, z3⟩ := hla c T' q z
    refine ⟨?_, z2, z3⟩
    obtain ⟨c', rfl⟩ := codeIn_ref hcd
    unfold cdA at z1
    rw [lk] at z1
    exact congrArg Value.ref z1
  · obtain ⟨hl, w, sto, ds, rfl, rel, rs, q⟩ := h
    exact fnD_run (nl := nl) st (fun _ _ _ _ z => z) (by rw [hN, hl]) rel rs q
def HasG (M : Mo) (x : Str) (j : Nat) (ps : List Str) (dvs : List V) (sp : Sp) : Prop := ∃ fd a ds, FnG M.P M.w M.K M.mg M.base (L2.CX M.P M.w) j a fd ps sp ∧ M.mg x = some (.ref a) ∧ PySem.W.keepIn M.K (.ref a) = true ∧ L2.Binds M.K fd ps ds ∧ Vals dvs ds
variable {W : WX} {sc : Sc} {e : Expr} {es : List Expr} {fs : EA} {pos p : Pos}
theorem run_fnG {X : Cx} {CX : CXT} {k : Nat} {f : Addr} {fd : FuncData} {ps : List Str} {ds : List Value} {dvs : List V} {sp : Sp} {E : XK} {pins : List (Addr × Obj)} {σ : L2.St} {H : Hp} {s : Shared} {Q : VK} {us : List Value} {vs : List V} (F : FnG X.prog X.w X.K X.mg X.base CX k f fd ps sp) (hr : Room k X.A) (hg : X.A.guards = some [])
    (hb : L2.Binds X.K fd ps ds) (hd : Vals dvs ds) (hx : PassesAt CX X σ E) (I : Inv X pins σ H s) (r : Vals vs us) (h : sp (vs ++ dvs) H Q E) : wpAny (model X.prog X.w) X.A (call (.ref f) us) (EP X pins σ Q) X.xe s := by
  have r2 := r.append hd
  have hl : (us ++ ds).length = ps.length := r2.length.symm.trans (F.len _ _ _ _ h)
  have run := F.run X.A X.stack s H ⟨us, []⟩ _ _ Q E hr hg I.env0 (hb s us I.kIn hl) r2 h
  refine wpAny_call (codeAny_mono run fun res s' hq => ?_)
  match res, hq with
  | .error e, hq => exact hx pins H s e s' I hq
  | .ok (.ret u), hq => exact I.after hq
theorem de_callG0' {t : TA} {X : Cx} {j n : Nat} {ps : List Str} {dvs : List V} {sp : Sp} (c : CK M k W N sc X) (hgd : sc.gd = true) (h : HasG M x j ps dvs sp) (hj : j ≤ k) (hg : Gl X x) (ha : PA X (e :: es) t) (hs : starEach (e :: es) X.env = (false, eval e X.env) :: starEach es X.env)
    (hp : ((backTo pos (starEach es X.env)).any (·.1)) = false) (h1 : (x == ("__debug__" : Str)) = false) : PE X (.Call (.Name x p) (e :: es) [] pos) (tCallSD sp dvs (EW W) t) := by
  obtain ⟨fd, aa, ds, F, gm, kp, B, vd⟩ := h
  have gd := c.gd hgd
  obtain ⟨eP, ew, eK, em, eb, eN, eS, ecalm, rm, nd, fn, pass, hla, _, _⟩ := c
  cases X
  subst eP ew eK em eb
  refine ⟨fun pins s σ H Q I q => wpAny_Call_Name_kw (ld_glob I hg gm ?_ h1)⟩
  exact PySem.W.callWith_K (h₀ := M.base) I.ok.mod.kin kp (thn (ha.run pos pins s σ H _ I q) fun us s1 ⟨vs, H1, I1, r, q1⟩ => ⟨I1.kIn, run_fnG F (rm.mono hj) gd B vd (pass σ) I1 r q1⟩) hs hp
theorem de_callBG {j n : Nat} {ps : List Str} {dvs : List V} {dds : List D} {ff : FF} (h : HasG M x j ps dvs (spD M.G n ff)) (hj : j ≤ k) (hd : ∀ I ph, Reps M.G I ph dvs dds) (ha : DA M k W N sc (e :: es) fs) (hgd : sc.gd = true := by rfl)
    (hg : ∀ env : Env, ({ env with scope := sc.v } : Env).kindOf x = some .globalImplicit := by intro _; rfl) (hs : ∀ env : Env, starEach (e :: es) env = (false, eval e env) :: starEach es env := by intro _; rfl) (hp : ∀ env : Env, ((backTo pos (starEach es env)).any (·.1)) = false := by intro _; rfl) (h1 : (x == ("__debug__" : Str)) = false := by rfl) :
    DE M k W N sc (.Call (.Name x p) (e :: es) [] pos) (eCalB n ff dds fs) := by
  obtain ⟨ta, pa, sa⟩ := ha
  exact ⟨_, fun X c => de_callG0' (n := n) c hgd h hj (gl_of c hg) (pa X c) (hs X.env) (hp X.env) h1, se_calB hd sa⟩
end
end DS
namespace DS
open PySem PySem.Spec PyProof.Rows L2
def showD (d : PyData) : Option Str := if d.showable = true ∧ d.hasDict = false ∧ Nat.ble d.depth 40 = true ∧ d.shown.length ≤ lineN then some d.shown else none
def rShow (K : PySem.W.Frag) : List V → Hp → VK → Prop := fun xs H Q => ∃ v d s, xs = [v] ∧ Dp K H v d ∧ showD d = some s ∧ Q (.str s) H
def reprG : Sto → List D → Option D := fun st ds => match ds with
  | [x] => match pyH st x with
    | some d => (showD d).map .str
    | none => none
  | _ => none
theorem showD_at {d : PyData} {s : Str} (h : showD d = some s) : d.showable = true ∧ d.hasDict = false ∧ d.depth ≤ 40 ∧ d.shown.length ≤ lineN ∧ s = d.shown := by
  unfold showD at h
  split at h
  · rename_i z
    cases h
    exact ⟨z.1, z.2.1, Nat.le_of_ble_eq_true z.2.2.1, z.2.2.2, rfl⟩
  · cases h
theorem repr_run {X : Cx} {pins : List (Addr × Obj)} {σ : L2.St} {H : Hp} {s : Shared} {v : V} {u : Value} {d : PyData} {t : Str} {Q : VK} (I : Inv X pins σ H s) (r : RelV v u) (hd : Dp X.K H v d) (ht : showD d = some t) (hg : X.A.guards = some []) (hu : X.A.units + 64 < cLine) (q : Q (.str t) H) :
    wpAny (model X.prog X.w) X.A (call (.builtin "repr") [u]) (EP X pins σ Q) X.xe s := by
  obtain ⟨h1, h2, h3, h4, rfl⟩ := showD_at ht
  have big : ∀ (a : Addr), u = .ref a → wpAny (model X.prog X.w) X.A (call (.builtin "repr") [u]) (EP X pins σ Q) X.xe s := fun a e => by
    subst e
    obtain ⟨as, rd⟩ := Dp.reads I d v (.ref a) hd r
    exact repr_of_reads' rd h1 (PyData.noDict_hsm h2) hg (by omega) (fun _ _ e => e) (fun h' u tk hk => ⟨.str d.shown, H, I.kept hk, ⟨_, rfl⟩, q⟩) (line_ok h4)
  cases hd with
  | non => cases r; exact PySem.P.repr_of_none ⟨.str _, H, I.tok _, ⟨_, rfl⟩, q⟩
  | bl b =>
    cases r
    refine PySem.P.repr_of_bool ⟨.str _, H, I.tok _, ⟨_, rfl⟩, q⟩
  | int i =>
    obtain ⟨tk, rfl⟩ := r
    exact PySem.P.repr_of_int (of_decide_eq_true h1) ⟨.str _, H, I.tok _, ⟨_, rfl⟩, q⟩
  | str x =>
    obtain ⟨tk, rfl⟩ := r
    exact PySem.P.repr_of_str ⟨.str _, H, I.tok _, ⟨_, rfl⟩, q⟩ (line_ok h4)
  | lst _ _ => cases r; exact big _ rfl
  | tup _ _ => cases r; exact big _ rfl
theorem c_show {G : Md} : CaD G (rShow G.K) reprG := by
  intro w st xs ds d Q rel rs e q
  unfold reprG at e
  split at e
  case h_2 => cases e
  rename_i x
  obtain ⟨v, vs, rfl, r1, r2⟩ := rs.inv_cons'
  rw [r2.inv_nil']
  cases h : pyH st x with
  | none => rw [h] at e; cases e
  | some p =>
    rw [h] at e
    replace e : (showD p).map D.str = some d := e
    cases h2 : showD p with
    | none => rw [h2] at e; cases e
    | some t =>
      rw [h2] at e
      cases e
      exact ⟨v, p, t, rfl, pyH_rep rel r1 h, h2, q w _ (Step.refl w) rel (.str t)⟩
section
variable {M : Mo} {k : Nat} {W : WX} {N : List Str} {sc : Sc} {e : Expr} {f : EE} {pos p : Pos}
theorem de_reprG (hm : M.mg "repr" = none) (ha : DE M k W N sc e f) (hgd : sc.gd = true := by rfl) (hg : ∀ env : Env, ({ env with scope := sc.v } : Env).kindOf "repr" = some .globalImplicit := by intro _; rfl) (hs : ∀ env : Env, starEach [e] env = [(false, eval e env)] := by intro _; rfl) :
    DE M k W N sc (.Call (.Name "repr" p) [e] [] pos) (eCB reprG (aCons f aNil)) := by
  obtain ⟨ta, pa, sa⟩ := da_cons ha da_nil (by intro env; rw [hs]; rfl)
  refine ⟨_, fun X c => ?_, se_cb c_show sa⟩
  have hc : CallR X (.builtin "repr") (rShow M.K) := by
    intro pins s σ H xs us Q I r h
    obtain ⟨v, d, t, rfl, h1, h2, q⟩ := h
    obtain ⟨u, rfl, ru⟩ := r.one
    have un := room_un c.rm
    exact repr_run I ru (by rw [c.eK]; exact h1) h2 (c.gd hgd) (by omega) q
  exact pe_callB hc (gl_of c hg) (by rw [c.em]; exact hm) (by decide +kernel) (pa X c) (by decide) (by rfl) (by rw [hs]; rfl) (by rfl)
end
end DS
namespace DS
open PySem PySem.Spec PyProof.Rows L2
structure Clz where
  c : Value
  nm : Option Nat
  te : Addr → Value → Option Addr → TE
def slotsOf (σ : L2.St) (a : Addr) : Option Nat → L2.St
  | none => σ
  | some i => σ.set i (some (.ref a))
def wMix (K : PySem.W.Frag) (Wo : WX) (Q : VK) : List Clz → WX
  | [] => Wo
  | z :: r => fun cls d σ H => ∃ b, PySem.W.exmOne K cls z.c = some b ∧ (b = true → ∀ a, H a = none → z.te a cls d (slotsOf σ a z.nm) H Q) ∧ (b = false → wMix K Wo Q r cls d σ H)
inductive ClzOk (X : Cx) : List ExceptHandler → List Clz → Prop
  | nil : ClzOk X [] []
  | plain {x : Str} {c : Value} {te : Addr → Value → Option Addr → TE} {e : Expr} {p1 p2 p3 : Pos} {hs : List ExceptHandler} {l : List Clz} (nm : Names X x c)
      (pe : ∀ (a : Addr) (oe : Obj) (cls : Value) (d : Option Addr) (pn : List (Addr × Obj)), Zc cls d oe → (∃ vs, oe.data = .fields vs) → PE (X.suite a ((a, oe) :: pn)) e (te a cls d)) (r : ClzOk X hs l) :
      ClzOk X (.ExceptHandler (some (.Name x p1)) none [.Return (some e) p2] p3 :: hs) (⟨c, none, te⟩ :: l)
  | named {x n : Str} {c : Value} {i : Nat} {te : Addr → Value → Option Addr → TE} {e : Expr} {p1 p2 p3 : Pos} {hs : List ExceptHandler} {l : List Clz} (nm : Names X x c) (hi : X.N[i]? = some n) (hl : X.env.kindOf n = some .local)
      (pe : ∀ (a : Addr) (oe : Obj) (cls : Value) (d : Option Addr) (pn : List (Addr × Obj)), Zc cls d oe → (∃ vs, oe.data = .fields vs) → PE (X.suite a ((a, oe) :: pn)) e (te a cls d)) (r : ClzOk X hs l) :
      ClzOk X (.ExceptHandler (some (.Name x p1)) (some n) [.Return (some e) p2] p3 :: hs) (⟨c, some i, te⟩ :: l)
section
variable {X : Cx}
theorem nm_run {a : Addr} {oe : Obj} {x : Str} {c : Value} {p1 : Pos} {pn pins : List (Addr × Obj)} {σ : L2.St} {H : Hp} {s : Shared} {Q E : Value → Shared → Prop} (nm : Names X x c) (S : Inv (X.suite a ((a, oe) :: pn)) pins σ H s) (q : Q c s) :
    wpAny (model X.prog X.w) (X.A.mark (some (.ref a))) (eval (.Name x p1) X.env) Q E s := by
  obtain ⟨g, db, g1 | ⟨g1, g2, g3⟩⟩ := nm
  · exact ld_glob (X := X.suite a ((a, oe) :: pn)) S g g1 q db
  · exact ld_blt (X := X.suite a ((a, oe) :: pn)) S g g1 g2 q g3 db
theorem ps_try_mix {body : List Stmt} {h0 : ExceptHandler} {hs : List ExceptHandler} {l : List Clz} {pos : Pos} {tb : WX → TS} {Wo : WX} (e1 : X.stack = X.env :: X.outer) (e2 : X.env.frame = some X.env.locals) (nd : X.N.Nodup) (tk : Takes X Wo)
    (hb : ∀ (W : WX) (pn : List (Addr × Obj)) (xe : Value → Shared → Prop), Takes (X.tr pn xe) W → PassesOwn (model X.prog X.w) X.A X.env xe → PSs (X.tr pn xe) body (tb W)) (ok : ClzOk X (h0 :: hs) l) :
    PS X (.Try body (h0 :: hs) [] [] pos) (fun D σ H => tb (wMix X.K Wo D.rt l) D σ H) := by
  constructor
  intro pins s σ H D I h
  have oX := I.ok
  have frA : X.A.frames = some (X.env :: X.outer) := e1 ▸ oX.frames
  refine wpAny_Try_except (wpAny_mono ((hb (wMix X.K Wo D.rt l) (X.pn ++ pins) (fun e t1 => wpAny (model X.prog X.w) X.A (noteFrame e X.env) (fun _ t2 => wpAny (model X.prog X.w) X.A (setFlight e none)
    (fun _ t3 => wpAny (model X.prog X.w) X.A (handleBy e X.env (h0 :: hs)) (SP X pins D) X.xe t3) X.xe t2) X.xe t1) (fun u t xx => ?_) PassesOwn.looking).run [] s σ H D (I.toTry _) h) (fun fl t ht => ?_) fun _ _ z => z)
  rotate_left
  · cases fl with
    | ret u =>
      obtain ⟨v, σ2, H2, J, rv, q⟩ := ht
      exact ⟨v, σ2, H2, J.ofTry oX, rv, q⟩
    | next =>
      obtain ⟨σ2, H2, J, q⟩ := ht
      exact wpAny_execs_nil ⟨σ2, H2, J.ofTry oX, q⟩
    | brk =>
      obtain ⟨σ2, H2, J, q⟩ := ht
      exact ⟨σ2, H2, J.ofTry oX, q⟩
    | cont =>
      obtain ⟨σ2, H2, J, q⟩ := ht
      exact ⟨σ2, H2, J.ofTry oX, q⟩
  obtain ⟨a, B, sI, pins2, σ2, H2, cls, d, rfl, J0, nb, up, sky, na, eo, ag, wish⟩ := xx
  have J : Inv X pins σ2 H2 sI := J0.ofTry oX
  show wpAny (model X.prog X.w) X.A (noteFrame (.ref a) X.env) _ _ _
  refine Sky.land Zc.steady frA e2 (e1 ▸ sky) fun hA flA upA => ?_
  have JA : Inv X pins σ2 H2 { t with heap := hA } := J.landed nb flA.1 (up.trans upA) eo ag
  obtain ⟨oA, vA, gA, zA, dA⟩ := flA.there
  have notF : a ∉ frs (X.env :: X.outer) := fun m => by
    obtain ⟨_, o2, g2, nf⟩ := flA.2.2.1.mem m
    rw [gA] at g2
    cases g2
    exact nf _ dA
  have notL : a ≠ X.env.locals := fun z => notF (List.mem_filterMap.mpr ⟨X.env, List.mem_cons_self, z ▸ e2⟩)
  have notS : a ∉ X.fs := fun m => by
    obtain ⟨en, hen, q⟩ := List.mem_filterMap.mp m
    exact notF (List.mem_filterMap.mpr ⟨en, List.mem_cons_of_mem _ hen, q⟩)
  have SA := JA.suite gA dA na notL notS
  have LT : PySem.W.Looks (model X.prog X.w) hA (typeOf (.ref a)) cls := fun _ _ _ _ kp q => wpAny_typeOf_ref (kp _ _ gA) (zA.1 ▸ q)
  clear h
  generalize h0 :: hs = hh at ok ⊢
  have go : ∀ {hh : List ExceptHandler} {l : List Clz}, ClzOk X hh l → wMix X.K Wo D.rt l cls d σ2 H2 → wpAny (model X.prog X.w) X.A (handleBy (.ref a) X.env hh) (SP X pins D) X.xe { t with heap := hA } := by
    intro hh l ok
    induction ok with
    | nil =>
      intro wish
      refine wpAny_handleBy_nil ?_
      obtain ⟨_, _, _, oe, vs, T, oT, ts', g1, g2, g3, g4, g5⟩ := id flA
      unfold PySem.passOn
      refine wpAny_bind (wpAny_field g1 g3 g4 ?_)
      rw [if_neg (show ¬ ((Value.ref T == Value.none) = true) from by simp)]
      have last : wpAny (model X.prog X.w) X.A (setFlight (.ref a) X.env.frame) (fun _ s4 => wpAny (model X.prog X.w) X.A (throw (.ref a) : Sem Flow) (SP X pins D) X.xe s4) X.xe { t with heap := hA } := by
        rw [e2]
        refine HandSPX.setFlight_upZ flA fun hB hhB upB => wpAny_throw (tk _ _ ⟨a, B, sI, pins, σ2, H2, cls, d, rfl, J, nb, (up.trans upA).trans upB, .inr (.inr (e1.symm ▸ hhB)), na, eo, ag, wish⟩)
      first
        | exact wpAny_bind (wpAny_pure (wpAny_bind last))
        | exact wpAny_bind last
    | @plain x c te e p1 p2 p3 hs l nm pe r ih =>
      intro wish
      obtain ⟨b, eb, yes, no⟩ := wish
      refine wpAny_handleBy_cons (codeAny_handlers_test (nm_run (pn := X.pn ++ pins) nm SA ((PySem.W.exm_one (M := model X.prog X.w) JA.kIn LT eb).here ?_))) (by intro q; cases q)
      cases b with
      | false =>
        show wpAny _ X.A (handleBy (.ref a) X.env hs) _ _ _
        exact ih (no rfl)
      | true =>
        refine codeAny_handlers_suite (HandSPX.lands_againZ flA fun hB flB upB => ?_)
        have JB : Inv X pins σ2 H2 { t with heap := hB } := J.landed nb flB.1 ((up.trans upA).trans upB) eo ag
        obtain ⟨oB, vB, gB, zB, dB⟩ := flB.there
        refine wpAny_mono ((pss_one (ps_ret (pos := p2) (pe a oB cls d (X.pn ++ pins) zB ⟨_, dB⟩))).run [] _ _ H2 { rt := D.rt, nx := fun _ _ => False } (JB.suite gB dB na notL notS) (yes rfl a na)) (fun fl s6 k => ?_) (fun _ _ z => False.elim z)
        cases fl with
        | ret u =>
          obtain ⟨v, σ6, H6, S6, rv, q⟩ := k
          exact ⟨_, _, _, S6.unsuite oX, rv, q⟩
        | next =>
          obtain ⟨_, _, _, z⟩ := k
          exact z.elim
        | brk =>
          obtain ⟨_, _, _, z⟩ := k
          exact False.elim z
        | cont =>
          obtain ⟨_, _, _, z⟩ := k
          exact False.elim z
    | @named x n c i te e p1 p2 p3 hs l nm hi hl pe r ih =>
      intro wish
      obtain ⟨b, eb, yes, no⟩ := wish
      refine wpAny_handleBy_cons (codeAny_handlers_test (nm_run (pn := X.pn ++ pins) nm SA ((PySem.W.exm_one (M := model X.prog X.w) JA.kIn LT eb).here ?_))) (by intro q; cases q)
      cases b with
      | false =>
        show wpAny _ X.A (handleBy (.ref a) X.env hs) _ _ _
        exact ih (no rfl)
      | true =>
        refine codeAny_handlers_suite_as (HandSPX.lands_againZ flA fun hB flB upB => ?_)
        have JB : Inv X pins σ2 H2 { t with heap := hB } := J.landed nb flB.1 ((up.trans upA).trans upB) eo ag
        obtain ⟨oB, vB, gB, zB, dB⟩ := flB.there
        refine store_ok (X := X.suite a ((a, oB) :: (X.pn ++ pins))) (v := .ref a) (JB.suite gB dB na notL notS) nd hi (.inl hl) rfl (fun s5 S5 => ?_) (.inr hl)
        refine wpAny_mono ((pss_one (ps_ret (pos := p2) (pe a oB cls d (X.pn ++ pins) zB ⟨_, dB⟩))).run [] s5 _ H2 { rt := D.rt, nx := fun _ _ => False } S5 (yes rfl a na)) (fun fl s6 k => ?_) (fun _ _ z => False.elim z)
        cases fl with
        | ret u =>
          obtain ⟨v, σ6, H6, S6, rv, q⟩ := k
          exact gone_ok (S6.unsuite oX) nd hi hl fun s7 J7 => ⟨_, _, _, J7, rv, q⟩
        | next =>
          obtain ⟨_, _, _, z⟩ := k
          exact z.elim
        | brk =>
          obtain ⟨_, _, _, z⟩ := k
          exact False.elim z
        | cont =>
          obtain ⟨_, _, _, z⟩ := k
          exact False.elim z
  exact go ok wish
end
end DS
namespace DS
open PySem PySem.Spec PyProof.Rows L2
/-- an expression over the caught error alone -/
def DX (M : Mo) (N : List Str) (sc : Scope) (i : Option Nat) (e : Expr) (r : Exc → Option D) : Prop := ∃ te : Addr → Value → Option Addr → TE,
  (∀ (X : Cx) (a : Addr) (oe : Obj) (cls : Value) (d : Option Addr) (pn : List (Addr × Obj)), X.K = M.K → X.mg = M.mg → X.N = N → X.env.scope = sc → X.A.guards = some [] → X.A.units + 64 < cLine → Zc cls d oe → (∃ vs, oe.data = .fields vs) → PE (X.suite a ((a, oe) :: pn)) e (te a cls d)) ∧
  (∀ (a : Addr) (cls : Value) (d : Option Addr) (w : Wd) (sv : L2.St) (c : Exc) (st : Sto) (Q : VK) (r0 : D), Rel M.G w st → (∀ j, i = some j → sv[j]? = some (some (.ref a))) → ExR M.G w c cls d → r c = some r0 →
    (∀ w' v, Step w w' → Rel M.G w' st → Rep M.G w'.I w'.ph v r0 → Q v w'.H) → te a cls d sv w.H Q)
def DXs (M : Mo) (N : List Str) (sc : Scope) (i : Option Nat) (es : List Expr) (r : Exc → Option (List D)) : Prop := ∃ te : Addr → Value → Option Addr → TA,
  (∀ (X : Cx) (a : Addr) (oe : Obj) (cls : Value) (d : Option Addr) (pn : List (Addr × Obj)), X.K = M.K → X.mg = M.mg → X.N = N → X.env.scope = sc → X.A.guards = some [] → X.A.units + 64 < cLine → Zc cls d oe → (∃ vs, oe.data = .fields vs) → PA (X.suite a ((a, oe) :: pn)) es (te a cls d)) ∧
  (∀ (a : Addr) (cls : Value) (d : Option Addr) (w : Wd) (sv : L2.St) (c : Exc) (st : Sto) (Q : List V → Hp → Prop) (r0 : List D), Rel M.G w st → (∀ j, i = some j → sv[j]? = some (some (.ref a))) → ExR M.G w c cls d → r c = some r0 →
    (∀ w' v, Step w w' → Rel M.G w' st → Reps M.G w'.I w'.ph v r0 → Q v w'.H) → te a cls d sv w.H Q)
def xStr (s : Str) : Exc → Option D := fun _ => some (.str s)
def xNil : Exc → Option (List D) := fun _ => some []
def xCons (f : Exc → Option D) (g : Exc → Option (List D)) : Exc → Option (List D) := fun c => (f c).bind fun x => (g c).map (x :: ·)
def xTup (g : Exc → Option (List D)) : Exc → Option D := fun c => (g c).bind fun xs => if xs.length ≤ lineN then some (.tup xs) else none
def xAdd (f g : Exc → Option D) : Exc → Option D := fun c => (f c).bind fun x => (g c).bind fun y => addD [] x y
def xFld (y f : Str) : Exc → Option D := fun c => match c.cls, c.arg with
  | .glo x, some (g, d) => if x = y ∧ g = f then some d else none
  | _, _ => none
def xRep (f : Exc → Option D) : Exc → Option D := fun c => (f c).bind fun x => (pyD x).bind fun p => (showD p).map .str
section
variable {M : Mo} {N : List Str} {sc : Scope} {i : Option Nat} {e a b : Expr} {es : List Expr} {f g : Exc → Option D} {fs : Exc → Option (List D)} {pos p : Pos}
theorem dx_str {s : Str} {j : Nat} : DX M N sc i (.Constant (.str s) j pos) (xStr s) :=
  ⟨fun _ _ _ => tC (.str s), fun X a oe cls d pn _ _ _ _ _ _ _ _ => pe_str, fun a cls d w sv c st Q r0 rel _ _ e k => by cases e; exact k w _ (Step.refl w) rel (.str s)⟩
theorem dx_nil : DXs M N sc i [] xNil := ⟨fun _ _ _ => tNil, fun X a oe cls d pn _ _ _ _ _ _ _ _ => pa_nil, fun a cls d w sv c st Q r0 rel _ _ e k => by cases e; exact k w _ (Step.refl w) rel Reps.nil⟩
theorem dx_cons (h : DX M N sc i e f) (r : DXs M N sc i es fs) (hs : ∀ env : Env, starEach (e :: es) env = (false, eval e env) :: starEach es env := by intro _; rfl) : DXs M N sc i (e :: es) (xCons f fs) := by
  obtain ⟨t1, p1, s1⟩ := h
  obtain ⟨t2, p2, s2⟩ := r
  refine ⟨fun a cls d => tCons (t1 a cls d) (t2 a cls d), fun X a oe cls d pn k1 k2 k3 k4 k5 k6 k7 k8 => pa_cons (p1 X a oe cls d pn k1 k2 k3 k4 k5 k6 k7 k8) (p2 X a oe cls d pn k1 k2 k3 k4 k5 k6 k7 k8) (hs _), fun a cls d w sv c st Q r0 rel hi hx e k => ?_⟩
  unfold xCons at e
  cases q1 : f c with
  | none => rw [q1] at e; cases e
  | some x =>
    cases q2 : fs c with
    | none => rw [q1, q2] at e; cases e
    | some xs =>
      rw [q1, q2] at e
      cases e
      refine s1 a cls d w sv c st _ x rel hi hx q1 fun w1 v st1 r1 rv => ?_
      refine s2 a cls d w1 sv c st _ xs r1 hi (hx.step st1) q2 fun w2 vs st2 r2 rs => ?_
      exact k w2 (v :: vs) (st1.trans st2) r2 (Reps.cons (rv.step st2) rs)
theorem dx_tup {n : Nat} (h : DXs M N sc i es fs) : DX M N sc i (.Tuple es n pos) (xTup fs) := by
  obtain ⟨t1, p1, s1⟩ := h
  refine ⟨fun a cls d => tTup (t1 a cls d), fun X a oe cls d pn k1 k2 k3 k4 k5 k6 k7 k8 => pe_tup (p1 X a oe cls d pn k1 k2 k3 k4 k5 k6 k7 k8), fun a cls d w sv c st Q r0 rel hi hx e k => ?_⟩
  unfold xTup at e
  cases q1 : fs c with
  | none => rw [q1] at e; cases e
  | some xs =>
    rw [q1] at e
    replace e : (if xs.length ≤ lineN then some (D.tup xs) else none) = some r0 := e
    split at e
    case isFalse => cases e
    rename_i hl
    cases e
    refine s1 a cls d w sv c st _ xs rel hi hx q1 fun w1 vs st1 r1 rs => ⟨line_ok (by rw [rs.1]; exact hl), fun q hq => ?_⟩
    exact k (w1.addI q (.tup vs)) _ (st1.trans (step_addI r1 hq)) (r1.addI hq) (Rep.tup' (SqT.of upd_same) (rs.step (step_addI r1 hq)))
theorem addD_st {st : Sto} {x y d : D} (h : addD [] x y = some d) : addD st x y = some d := h
theorem dx_add (ha : DX M N sc i a f) (hb : DX M N sc i b g) : DX M N sc i (.BinOp a .Add b pos) (xAdd f g) := by
  obtain ⟨t1, p1, s1⟩ := ha
  obtain ⟨t2, p2, s2⟩ := hb
  refine ⟨fun a cls d => tOp (rAddD M.K) (t1 a cls d) (t2 a cls d), fun X a oe cls d pn k1 k2 k3 k4 k5 k6 k7 k8 => pe_op (by rw [← k1]; exact op_addD (X := X.suite a ((a, oe) :: pn))) (p1 X a oe cls d pn k1 k2 k3 k4 k5 k6 k7 k8) (p2 X a oe cls d pn k1 k2 k3 k4 k5 k6 k7 k8), fun a cls d w sv c st Q r0 rel hi hx e k => ?_⟩
  unfold xAdd at e
  cases q1 : f c with
  | none => rw [q1] at e; cases e
  | some x =>
    cases q2 : g c with
    | none => rw [q1, q2] at e; cases e
    | some y =>
      rw [q1, q2] at e
      refine s1 a cls d w sv c st _ x rel hi hx q1 fun w1 v st1 r1 rv => ?_
      refine s2 a cls d w1 sv c st _ y r1 hi (hx.step st1) q2 fun w2 u st2 r2 ru => ?_
      exact d_addD w2 st v u x y r0 Q r2 (rv.step st2) ru (addD_st e) fun w3 z st3 r3 rz => k w3 z ((st1.trans st2).trans st3) r3 rz
/-- the error's class and its field -/
def XfF (M : Mo) (y f : Str) : Prop := ∃ C, M.mg y = some (.ref C) ∧ XfC M.K C ∧ PySem.W.findIn M.K (.ref C) f = some none
theorem dx_fld {j : Nat} {n y fl : Str} (hN : N[j]? = some n) (hv : Vis sc n) (h : XfF M y fl) (h1 : (n == ("__debug__" : Str)) = false := by rfl) (h2 : (n == ("__classdict__" : Str)) = false := by rfl) (hb : ∀ env : Env, attributeBase (.Name n p) fl env (eval (.Name n p) env) = eval (.Name n p) env := by intro _; rfl) :
    DX M N sc (some j) (.Attribute (.Name n p) fl pos) (xFld y fl) := by
  obtain ⟨C, hC, hx, hn⟩ := h
  refine ⟨fun a cls d => tXf a cls d C fl (tVar j), fun X a oe cls d pn k1 k2 k3 k4 k5 k6 k7 k8 => ?_, fun a cls d w sv c st Q r0 rel hi hxr e k => ?_⟩
  · refine pe_xf (by rw [k1]; exact hx) (by rw [k1]; exact hn) k7 k8 ?_ (hb _)
    exact pe_var (X := X.suite a ((a, oe) :: pn)) (i := j) (by rw [show (X.suite a ((a, oe) :: pn)).N = X.N from rfl, k3]; exact hN) (by rw [show (X.suite a ((a, oe) :: pn)).env = X.env from rfl, k4]; exact hv) h1 h2
  · obtain ⟨z1, z2⟩ := hxr
    unfold xFld at e
    split at e
    case h_2 => cases e
    rename_i x g' d' hcl har
    split at e
    case isFalse => cases e
    rename_i hh
    cases e
    obtain ⟨rfl, rfl⟩ := hh
    rw [hcl] at z1
    rw [har] at z2
    obtain ⟨dd, v, e1, e2, e3⟩ := z2
    have z1 : M.mg x = some cls := z1
    rw [hC] at z1
    cases z1
    refine ⟨.ref a, hi j rfl, rfl, rfl, dd, [(g', v)], v, e1, rel.sub _ _ e2, ?_, k w v (Step.refl w) rel e3⟩
    simp [List.lookup]
theorem dx_rep (hm : M.mg "repr" = none) (ha : DX M N sc i e f) (hg : ∀ env : Env, ({ env with scope := sc } : Env).kindOf "repr" = some .globalImplicit := by intro _; rfl) (hs : ∀ env : Env, starEach [e] env = [(false, eval e env)] := by intro _; rfl) : DX M N sc i (.Call (.Name "repr" p) [e] [] pos) (xRep f) := by
  obtain ⟨t1, p1, s1⟩ := ha
  refine ⟨fun a cls d => tCB (rShow M.K) (tCons (t1 a cls d) tNil), fun X a oe cls d pn k1 k2 k3 k4 k5 k6 k7 k8 => ?_, fun a cls d w sv c st Q r0 rel hi hx e k => ?_⟩
  · have hc : CallR (X.suite a ((a, oe) :: pn)) (.builtin "repr") (rShow M.K) := by
      intro pins s σ H xs us Q I r h
      obtain ⟨v, d, t, rfl, h1, h2, q⟩ := h
      obtain ⟨u, rfl, ru⟩ := r.one
      exact repr_run I ru (by rw [← k1] at h1; exact h1) h2 k5 k6 q
    have hgl : Gl (X.suite a ((a, oe) :: pn)) "repr" := by
      show X.env.kindOf "repr" = _
      have z := hg X.env
      rw [← k4] at z
      exact z
    exact pe_callB hc hgl (by show X.mg "repr" = none; rw [k2]; exact hm) (by decide +kernel) (pa_cons (p1 X a oe cls d pn k1 k2 k3 k4 k5 k6 k7 k8) pa_nil (by rw [hs]; rfl)) (by decide) (by rfl) (by rw [hs]; rfl) (by rfl)
  · unfold xRep at e
    cases q1 : f c with
    | none => rw [q1] at e; cases e
    | some x =>
      rw [q1] at e
      replace e : ((pyD x).bind fun p => (showD p).map D.str) = some r0 := e
      cases q2 : pyD x with
      | none => rw [q2] at e; cases e
      | some y =>
        rw [q2] at e
        replace e : (showD y).map D.str = some r0 := e
        cases q3 : showD y with
        | none => rw [q3] at e; cases e
        | some t =>
          rw [q3] at e
          cases e
          refine s1 a cls d w sv c st _ x rel hi hx q1 fun w1 v st1 r1 rv => ?_
          exact ⟨v, y, t, rfl, py_rep r1 rv q2, q3, k w1 _ st1 r1 (.str t)⟩
end
end DS
namespace DS
open PySem PySem.Spec PyProof.Rows L2
inductive EK where
  | own (y : Str)
  | ty (n : String)
  deriving DecidableEq
def EK.val (M : Mo) : EK → Value → Prop
  | .own y, v => M.mg y = some v
  | .ty n, v => v = .type n
def ekOf : D → Option EK
  | .glo y => some (.own y)
  | .ty n => some (.ty n)
  | _ => none
abbrev STab := List ((EK × Str) × Bool)
def sget : STab → EK → Str → Option Bool
  | [], _, _ => none
  | ((k, x), b) :: r, k', x' => if k = k' ∧ x = x' then some b else sget r k' x'
theorem sget_mem : ∀ {t : STab} {k : EK} {x : Str} {b : Bool}, sget t k x = some b → ((k, x), b) ∈ t
  | [], k, x, b, h => by cases h
  | ((k', x'), b') :: r, k, x, b, h => by
    unfold sget at h
    split at h
    · rename_i z
      cases h
      rw [z.1, z.2]
      exact List.mem_cons_self
    · exact List.mem_cons_of_mem _ (sget_mem h)
/-- which classes of errors an except clause takes -/
def SubOk (M : Mo) (t : STab) : Prop := ∀ k x b, ((k, x), b) ∈ t → ∀ v, EK.val M k v → ∃ C, M.mg x = some (.ref C) ∧ PySem.W.exmOne M.K v (.ref C) = some b
abbrev Hnd := Str × (Exc → Option D)
def pickD (t : STab) : List Hnd → Exc → Sto → Res D
  | [], _, _ => .stk
  | (x, g) :: r, c, st => match (ekOf c.cls).bind fun k => sget t k x with
    | some true => (match g c with
      | some d => .ok d st
      | none => .stk)
    | some false => pickD t r c st
    | none => .stk
def metD (t : STab) (hs : List Hnd) (dflt : D) : Res D → Res D
  | .ok _ st => .ok dflt st
  | .ex c st => pickD t hs c st
  | .stk => .stk
def eMet (t : STab) (hs : List Hnd) (dflt : D) (f : EE) : EE := fun sd st => metD t hs dflt (f sd st)
/-- the clauses of the text, over slots N of a scope -/
inductive HdsD (M : Mo) (N : List Str) (sc : Scope) : List ExceptHandler → List Hnd → Prop
  | nil : HdsD M N sc [] []
  | plain {x : Str} {e : Expr} {g : Exc → Option D} {p1 p2 p3 : Pos} {hs : List ExceptHandler} {l : List Hnd} (hx : ∃ C, M.mg x = some (.ref C)) (hg : ∀ env : Env, ({ env with scope := sc } : Env).kindOf x = some .globalImplicit) (h1 : (x == ("__debug__" : Str)) = false) (h : DX M N sc none e g) (r : HdsD M N sc hs l) :
      HdsD M N sc (.ExceptHandler (some (.Name x p1)) none [.Return (some e) p2] p3 :: hs) ((x, g) :: l)
  | named {x n : Str} {j : Nat} {e : Expr} {g : Exc → Option D} {p1 p2 p3 : Pos} {hs : List ExceptHandler} {l : List Hnd} (hx : ∃ C, M.mg x = some (.ref C)) (hg : ∀ env : Env, ({ env with scope := sc } : Env).kindOf x = some .globalImplicit) (h1 : (x == ("__debug__" : Str)) = false) (hN : N[j]? = some n) (hl : ∀ env : Env, ({ env with scope := sc } : Env).kindOf n = some .local) (h : DX M N sc (some j) e g) (r : HdsD M N sc hs l) :
      HdsD M N sc (.ExceptHandler (some (.Name x p1)) (some n) [.Return (some e) p2] p3 :: hs) ((x, g) :: l)
/-- the clauses' wishes hold where the evaluation goes on -/
def HdsW (M : Mo) (N : List Str) (t : STab) (hs : List Hnd) (l : List Clz) : Prop := ∀ (cls : Value) (d : Option Addr) (w : Wd) (c : Exc) (st : Sto) (Q : VK) (E : XK) (σ : L2.St), σ.length = N.length → Rel M.G w st → ExR M.G w c cls d → Post M.G (RE M.G) w (pickD t hs c st) Q E → wMix M.K (fun _ _ _ _ => False) Q l cls d σ w.H
theorem hds_ok {M : Mo} {N : List Str} {sc : Scope} {t : STab} {hds : List ExceptHandler} {hs : List Hnd} (ht : SubOk M t) (h : HdsD M N sc hds hs) :
    ∃ l : List Clz, (∀ X : Cx, X.K = M.K → X.mg = M.mg → X.N = N → X.env.scope = sc → X.A.guards = some [] → X.A.units + 64 < cLine → ClzOk X hds l) ∧ HdsW M N t hs l := by
  have step : ∀ (x : Str) (g : Exc → Option D) (C : Addr) (nm : Option Nat) (te : Addr → Value → Option Addr → TE) (hs : List Hnd) (l : List Clz), M.mg x = some (.ref C) → (∀ j, nm = some j → j < N.length) →
      (∀ (a : Addr) (cls : Value) (d : Option Addr) (w : Wd) (sv : L2.St) (c : Exc) (st : Sto) (Q : VK) (r0 : D), Rel M.G w st → (∀ j, nm = some j → sv[j]? = some (some (.ref a))) → ExR M.G w c cls d → g c = some r0 →
        (∀ w' v, Step w w' → Rel M.G w' st → Rep M.G w'.I w'.ph v r0 → Q v w'.H) → te a cls d sv w.H Q) → HdsW M N t hs l → HdsW M N t ((x, g) :: hs) (⟨.ref C, nm, te⟩ :: l) := by
    intro x g C nm te hs l hC hj hte ih cls d w c st Q E σ hl rel hx q
    replace q : Post M.G (RE M.G) w (match (ekOf c.cls).bind fun k => sget t k x with
      | some true => (match g c with
        | some d => .ok d st
        | none => .stk)
      | some false => pickD t hs c st
      | none => .stk) Q E := q
    cases e1 : ekOf c.cls with
    | none => rw [e1] at q; exact q.elim
    | some k =>
      rw [e1] at q
      replace q : Post M.G (RE M.G) w (match sget t k x with
        | some true => (match g c with
          | some d => .ok d st
          | none => .stk)
        | some false => pickD t hs c st
        | none => .stk) Q E := q
      cases e2 : sget t k x with
      | none => rw [e2] at q; exact q.elim
      | some b =>
        rw [e2] at q
        have hv : EK.val M k cls := by
          have z := hx.1
          cases hc : c.cls with
          | glo y =>
            rw [hc] at e1 z
            cases e1
            exact z
          | ty n =>
            rw [hc] at e1 z
            cases e1
            exact z
          | _ => rw [hc] at e1; cases e1
        obtain ⟨C', hC', eb⟩ := ht k x b (sget_mem e2) cls hv
        rw [hC] at hC'
        cases hC'
        refine ⟨b, eb, fun hb a na => ?_, fun hb => ?_⟩
        · subst hb
          replace q : Post M.G (RE M.G) w (match g c with
            | some d => .ok d st
            | none => .stk) Q E := q
          cases e3 : g c with
          | none => rw [e3] at q; exact q.elim
          | some r0 =>
            rw [e3] at q
            refine hte a cls d w (slotsOf σ a nm) c st Q r0 rel (fun j hjn => ?_) hx e3 fun w' v s r rv => q w' v s r rv
            subst hjn
            show (σ.set j (some (.ref a)))[j]? = _
            rw [List.getElem?_set_self (by rw [hl]; exact hj j rfl)]
        · subst hb
          exact ih cls d w c st Q E σ hl rel hx q
  induction h with
  | nil => exact ⟨[], fun X _ _ _ _ _ _ => .nil, fun cls d w c st Q E σ _ _ _ q => q.elim⟩
  | @plain x e g p1 p2 p3 hs l hx hg h1 h r ih =>
    obtain ⟨l', k1, k2⟩ := ih
    obtain ⟨C, hC⟩ := hx
    obtain ⟨te, t1, t2⟩ := h
    refine ⟨⟨.ref C, none, te⟩ :: l', fun X z1 z2 z3 z4 z5 z6 => .plain ⟨?_, h1, .inl (by rw [z2]; exact hC)⟩ (fun a oe cls d pn y1 y2 => t1 X a oe cls d pn z1 z2 z3 z4 z5 z6 y1 y2) (k1 X z1 z2 z3 z4 z5 z6), step x g C none te l l' hC (fun j z => nomatch z) t2 k2⟩
    show X.env.kindOf x = _
    have z := hg X.env
    rw [← z4] at z
    exact z
  | @named x n j e g p1 p2 p3 hs l hx hg h1 hN hl h r ih =>
    obtain ⟨l', k1, k2⟩ := ih
    obtain ⟨C, hC⟩ := hx
    obtain ⟨te, t1, t2⟩ := h
    refine ⟨⟨.ref C, some j, te⟩ :: l', fun X z1 z2 z3 z4 z5 z6 => .named ⟨?_, h1, .inl (by rw [z2]; exact hC)⟩ (by rw [z3]; exact hN) ?_ (fun a oe cls d pn y1 y2 => t1 X a oe cls d pn z1 z2 z3 z4 z5 z6 y1 y2) (k1 X z1 z2 z3 z4 z5 z6), step x g C (some j) te l l' hC (fun i z => ?_) t2 k2⟩
    · show X.env.kindOf x = _
      have z := hg X.env
      rw [← z4] at z
      exact z
    · have z := hl X.env
      rw [← z4] at z
      exact z
    · cases z
      exact (List.getElem?_eq_some_iff.mp hN).1
end DS
namespace DS
open PySem PySem.Spec PyProof.Rows L2
/-- the def m of the text -/
def MetF (M : Mo) (x a : Str) (sg : Scope) (bg : List Stmt) : Prop := ∃ (g : Addr) (oc : Value) (od : Option Addr) (pg : Arguments) (dV kV doc pm : Value) (an : Option Addr) (cdv ct : Value) (osl : Array (Option Value)), M.mg x = some (.ref g) ∧ PySem.W.keepIn M.K (.ref g) = true ∧
  M.K.lookup g = some ⟨oc, od, .func (PySem.W.fnOf x x pg bg sg dV kV doc pm an cdv ct), osl⟩ ∧ PySem.W.codeIn M.K cdv x = true ∧ L2.Binds M.K (PySem.W.fnOf x x pg bg sg dV kV doc pm an cdv ct) [a] []
def metE (n : Nat) (K : PySem.W.Frag) (l : List Clz) (Q : VK) : XK := fun cls d H => ∀ σ : L2.St, σ.length = n → wMix K (fun _ _ _ _ => False) Q l cls d σ H
def TMet (n : Nat) (K : PySem.W.Frag) (l : List Clz) (tr : TE) : (XK → Hp → VK → Prop) → Hp → VK → Prop := fun tl H Q => ∀ σ0, tl (metE n K l Q) H fun _ H1 => tr σ0 H1 Q
section
variable {M : Mo} {k : Nat} {W : WX} {N : List Str} {sc : Sc}
theorem met_gives {X : Cx} {Ng : List Str} {x a q : Str} {sg : Scope} {g : Addr} {cdg : Value} {h0 : ExceptHandler} {hds : List ExceptHandler} {l : List Clz} {e : Expr} {tr : TE} {p1 p2 p3 p4 p5 : Pos} (nd : Ng.Nodup)
    (hcl : ∀ s H, ClzOk (cxOf C8.CX0 X.prog X.w X.K X.mg X.base Ng x sg g cdg X.A X.stack s H C8.E0).nox (h0 :: hds) l) (hr : ∀ s H, PE (cxOf C8.CX0 X.prog X.w X.K X.mg X.base Ng x sg g cdg X.A X.stack s H C8.E0).nox e tr) (hs : ∀ f : Addr, (L2.start Ng [V.ref f])[0]? = some (some (V.ref f))) :
    LamX.GivesTo X Ng x sg g cdg [.Try [.Expr (.Call (.Name a p1) [] [] p2) p3] (h0 :: hds) [] [] p4, .Return (some e) p5] a q (TMet Ng.length X.K l tr) := by
  intro f c' s H Q tl act hc h
  refine ⟨_, pss_cons (ps_try_mix (X := (cxOf C8.CX0 X.prog X.w X.K X.mg X.base Ng x sg g cdg X.A X.stack s H C8.E0).nox) (l := l)
      (tb := fun W D σ H => ∃ Ech : XK, (∀ cls d σ' H', Ech cls d H' → σ'.length = Ng.length → W cls d σ' H') ∧ σ[0]? = some (some (.ref f)) ∧ H c' = some (LamX.CodeO c' q) ∧ tl Ech H fun _ H1 => D.nx σ H1)
      rfl rfl nd LamX.takes0 (fun W pn xe tk _ => ?_) (hcl s H)) (pss_one (ps_ret (hr s H))), ?_⟩
  · refine ⟨fun pins s' σ H' D I h' => ?_⟩
    obtain ⟨Ech, hW, z1, z2, z3⟩ := h'
    have tk2 : Takes ((cxOf C8.CX0 X.prog X.w X.K X.mg X.base Ng x sg g cdg X.A X.stack s H C8.E0).tr pn xe) (fun cls d σ H => σ.length = Ng.length → W cls d σ H) := by
      intro u t ⟨a, B, sI, pins, σ, H, cls, d, y1, y2, y3, y4, y5, y6, y7, y8, y9⟩
      exact tk u t ⟨a, B, sI, pins, σ, H, cls, d, y1, y2, y3, y4, y5, y6, y7, y8, y9 y2.len⟩
    have pc := act (fun cls d σ H => σ.length = Ng.length → W cls d σ H) pn xe Ech p1 p2 tk2 hW
    exact (pss_one (ps_expr (pos := p3) pc)).run pins s' σ H' D I ⟨z1, z2, z3⟩
  · exact ⟨metE Ng.length X.K l Q, fun cls d σ' H' z hl => z σ' hl, hs f, hc, h _⟩
theorem ck_met {X : Cx} {Ng : List Str} {x : Str} {sg : Scope} {g : Addr} {cdg : Value} {s : Shared} {H : Hp} (c : CK M (k + 1) W N sc X) (nd : Ng.Nodup) : CK M k WF Ng ⟨sg, sg, none, false, none⟩ (cxOf C8.CX0 X.prog X.w X.K X.mg X.base Ng x sg g cdg X.A X.stack s H C8.E0).nox where
  eP := c.eP
  ew := c.ew
  eK := c.eK
  em := c.em
  eb := c.eb
  eN := rfl
  es := rfl
  calm := rfl
  rm := c.rm.deeper _
  nd := nd
  fn := fun _ _ => .inl rfl
  pass := fun σ pins H s e s' I h => by
    obtain ⟨_, _, _, _, _, _, _, _, _, _, _, _, z⟩ := h
    exact z.elim
  la := fun _ _ _ z => nomatch z
  gd := fun z => nomatch z
  ge := fun _ _ _ z => nomatch z
theorem ck_lam {X : Cx} {A : Around} {outer : List Env} {s : Shared} {H : Hp} {E : XK} {scope : Scope} {f c' : Addr} {k' : Nat} (c : CK M k W N sc X) (L : LamX.LamS X.env.scope scope) (rm : Room k' (A.deeper (LamX.lamEnv X scope s.heap.objs.size f c'))) :
    CK M k' (fun cls d _ H => E cls d H) N ⟨scope, scope, none, false, none⟩ (LamX.lamCx X A outer s H E scope f c') where
  eP := c.eP
  ew := c.ew
  eK := c.eK
  em := c.em
  eb := c.eb
  eN := c.eN
  es := rfl
  calm := rfl
  rm := rm
  nd := c.nd
  fn := fun y hy => by
    rcases hy with hy | hy
    · exact absurd rfl (L.own _ (PySem.mem_of_lookup hy)).1
    · exact absurd rfl (L.own _ (PySem.mem_of_lookup hy)).2
  pass := fun σ => passAt (takes_of rfl rfl rfl rfl) σ
  la := fun _ _ _ z => nomatch z
  gd := fun z => nomatch z
  ge := fun _ _ _ z => nomatch z
theorem tl_inv {o : HO} : (∃ ps, o = .tbl ps) ∨ ∀ ps, o ≠ .tbl ps := by
  cases o with
  | tbl ps => exact .inl ⟨ps, rfl⟩
  | _ => exact .inr fun _ z => nomatch z
/-- a lambda is made: only the tables change -/
theorem lam_step {w : Wd} {st : Sto} {H1 : Hp} (r : Rel M.G w st) (e : LamX.ExtN w.H H1) (t : LamX.Tabs M.T H1) : Step w ⟨w.I, w.ph, H1⟩ ∧ Rel M.G ⟨w.I, w.ph, H1⟩ st := by
  have keep : ∀ a o, w.H a = some o → (∀ ps, o ≠ .tbl ps) → H1 a = some o := e
  refine ⟨⟨Evl.Ex.refl _, Px.refl, fun _ _ h => .inl h, fun _ h => .inl h, fun a o h _ nt => keep a o h nt, fun a h => ?_⟩, ⟨fun a o h => ?_, r.len, r.nd, fun i a c hi hc => ?_, ⟨t, r.tab.no, fun j f c q hj => keep c _ (r.tab.lam j f c q hj) codeO_nt⟩⟩⟩
  · cases q : w.H a with
    | none => exact .inl q
    | some o =>
      rcases tl_inv (o := o) with ⟨ps, rfl⟩ | n
      · exact .inr ⟨ps, q⟩
      · exact (h.no (keep a o q n) n).elim
  · exact keep a o (r.sub a o h) fun ps z => r.tab.no a ps (by rw [← z]; exact h)
  · have k := r.cel i a c hi hc
    cases c with
    | lst xs =>
      obtain ⟨e0, us, e1, z⟩ := k
      exact ⟨e0, us, keep _ _ e1 (by intro _ z; cases z), z⟩
    | dead =>
      obtain ⟨u, e1, pl⟩ := k
      exact ⟨u, keep _ _ e1 pl.1, pl⟩
    | ob j c fs => exact ObOk.keep k (Evl.Ex.refl _) Px.refl fun b hb o' e1 _ e2 => ⟨keep _ _ e1 (r.kinds hb e1).1, e2⟩
end
end DS
namespace DS
open PySem PySem.Spec PyProof.Rows L2
section
variable {M : Mo} {k : Nat} {W : WX} {N : List Str} {sc : Sc} {e : Expr} {x m : Str} {j : Nat} {p p2 pos pos2 : Pos}
def bmVE : List Value := [.type "ValueError", .type "Exception", .type "BaseException", .type "object"]
def xownB (K : PySem.W.Frag) (C : Addr) : Bool := PySem.W.excIn K C bmVE "ValueError.__new__" && (PySem.W.keepIn K (.ref C) && (PySem.W.subIn K (.ref C) (.type "BaseException") == some true && PySem.W.typeIn K (.ref C) == some (.type "type")))
structure XOwn (M : Mo) (x : Str) : Prop where
  ex : ∃ C, M.mg x = some (.ref C) ∧ PySem.W.excIn M.K C bmVE "ValueError.__new__" = true ∧ PySem.W.keepIn M.K (.ref C) = true ∧ PySem.W.subIn M.K (.ref C) (.type "BaseException") = some true ∧ PySem.W.typeIn M.K (.ref C) = some (.type "type")
theorem XOwn.of {C : Addr} (hm : M.mg x = some (.ref C)) (h : xownB M.K C = true) : XOwn M x := by
  obtain ⟨h1, h2⟩ := He.ba h
  obtain ⟨h2, h3⟩ := He.ba h2
  obtain ⟨h3, h4⟩ := He.ba h3
  exact ⟨⟨C, hm, h1, h2, eq_of_beq h3, eq_of_beq h4⟩⟩
def sRaise (c : Exc) : SS := fun sd st => .ex c sd st
theorem d1_raise (h : XOwn M x) (hg : ∀ env : Env, ({ env with scope := sc.v } : Env).kindOf x = some .globalImplicit := by intro _; rfl) (h1 : (x == ("__debug__" : Str)) = false := by rfl) :
    D1 M k W N sc (.Raise (some (.Call (.Name x p) [.Constant (.str m) j p2] [] pos)) none pos2) (sRaise ⟨.glo x, none⟩) := by
  obtain ⟨C, hC, g1, g2, g3, g4⟩ := h.ex
  refine ⟨fun _ σ H => W (.ref C) none σ H, fun X c => ?_, fun w sv sd st Dn rel sl h => h w sv (.ref C) none (Step.refl w) rel sl ⟨hC, rfl⟩⟩
  exact ps_raise c.calm c.tk (pmk_own PySem.F.excBase_ValueError (by rw [c.eK]; exact g1) (by rw [c.em]; exact hC) (by rw [c.eK]; exact g2) (raises_own (by rw [c.eK]; exact g3) (by rw [c.eK]; exact g4)) (gl_of c.toCK hg) h1)
theorem d1_raiseB {T Nn I : String} (F : ExcB T Nn I) (hm : M.mg x = none) (hv : bootBuiltins x = some (.type T)) (hg : ∀ env : Env, ({ env with scope := sc.v } : Env).kindOf x = some .globalImplicit := by intro _; rfl) (hn : x ≠ ("__name__" : Str) := by decide) (h1 : (x == ("__debug__" : Str)) = false := by rfl) :
    D1 M k W N sc (.Raise (some (.Call (.Name x p) [.Constant (.str m) j p2] [] pos)) none pos2) (sRaise ⟨.ty T, none⟩) :=
  ⟨fun _ σ H => W (.type T) none σ H, fun X c => ps_raiseB c.calm c.tk F (gl_of c.toCK hg) (by rw [c.em]; exact hm) hv hn h1, fun w sv sd st Dn rel sl h => h w sv (.type T) none (Step.refl w) rel sl ⟨rfl, rfl⟩⟩
end
end DS
namespace DS
open PySem PySem.Spec PyProof.Rows L2
end DS
namespace DS
open PySem PySem.Spec PyProof.Rows L2
def xownK (x : Str) : Bk := fun K => xownB K (He.ga K x)
def ekV (K : PySem.W.Frag) : EK → Value
  | .own y => .ref (He.ga K y)
  | .ty n => .type n
def tabB (t : STab) : Bk := fun K => t.all fun p => PySem.W.exmOne K (ekV K p.1.1) (.ref (He.ga K p.1.2)) == some p.2
def EkG (M : Mo) : EK → Prop
  | .own y => M.mg y = some (.ref (He.ga M.K y))
  | .ty _ => True
theorem subOk_of {M : Mo} {t : STab} (hm : ∀ p ∈ t, M.mg p.1.2 = some (.ref (He.ga M.K p.1.2)) ∧ EkG M p.1.1) (h : tabB t M.K = true) : SubOk M t := by
  intro k x b hp v hv
  obtain ⟨h1, h2⟩ := hm _ hp
  have z := eq_of_beq (List.all_eq_true.mp h _ hp)
  refine ⟨_, h1, ?_⟩
  cases k with
  | own y =>
    have hv : M.mg y = some v := hv
    have h2 : M.mg y = some (.ref (He.ga M.K y)) := h2
    rw [h2] at hv
    cases hv
    exact z
  | ty n =>
    have hv : v = .type n := hv
    subst hv
    exact z
end DS
namespace DS
open PySem PySem.Spec PyProof.Rows L2
end DS
namespace DS
open PySem PySem.Spec PyProof.Rows L2
end DS
namespace DS
open PySem PySem.Spec PyProof.Rows L2
end DS
namespace DS
open PySem PySem.Spec PyProof.Rows L2
end DS
namespace DQ
open PySem PySem.Spec PyProof.Rows L2
section
variable {prog : Program} {w : World} {A : Around} {E : Value → Shared → Prop} {s : Shared}
/-- t == (): whatever t holds -/
theorem tuple_eq0 {R : Result → Shared → Prop} (l b : Addr) (items : Array Value) (n n2 : Nat) (o1 o2 : Obj) (h1 : s.heap.get? l = some o1) (d1 : o1.data = .seq items n) (h2 : s.heap.get? b = some o2) (t2 : o2.cls = .type "tuple") (d2 : o2.data = .seq #[] n2)
    (done : R (.ok (.ret (.bool (items.size == 0)))) s) : wpAny (model prog w) A.in1 (Builtin.«tuple.__eq__» ⟨[.ref l, .ref b], []⟩) (GQ.FinOf prog w A R) (fun e s' => R (.error e) s') s := by
  refine wpAny_bind (m := slotArgs "__eq__" 1 ⟨[.ref l, .ref b], []⟩) (wpAny_pure ?_)
  refine wpAny_bind (wpAny_isInstance (T := "tuple") (b := true) ⟨o2, h2, t2⟩ (by first | rfl | kernel_rfl) ?_)
  refine PySem.W.KFB.if_not rfl ?_
  refine wpAny_bind (wpAny_tupleItemsOf h1 d1 (wpAny_bind (wpAny_tupleItemsOf h2 d2 ?_)))
  have z : items.toList.zip (#[] : Array Value).toList = [] := by simp
  rw [z]
  refine wpAny_bind (wpAny_pure ?_)
  show wpAny _ _ (ret (Builtin.Tuple.tupleCompareSizes .Eq items.size (#[] : Array Value).size)) _ _ _
  exact wpAny_pure done
theorem rc_tup0 {l b : Addr} {items : Array Value} {Q : Value → Shared → Prop} (hu : A.units < cLine) (h1 : Heap.IsTuple s.heap l items) (h2 : Heap.IsTuple s.heap b #[]) (done : Q (.bool (items.size == 0)) s) :
    wpAny (model prog w) A (richCompare .Eq (.ref l) (.ref b)) Q E s := by
  obtain ⟨o1, g1, t1, n, d1⟩ := h1
  obtain ⟨o2, g2, t2, n2, d2⟩ := h2
  refine wpAny_richCompare_same_room ⟨o1, g1, t1⟩ ⟨o2, g2, t2⟩ PySem.F.slot_tuple_eq ?_ hu
  refine GQ.call_here PySem.F.slot_tuple_eq ⟨o1, g1, t1⟩ PySem.F.entry_tuple_eq (PySem.F.args_tuple_eq_2 _ _) ?_
  exact tuple_eq0 l b items n n2 o1 o2 g1 d1 g2 t2 d2 ⟨(by intro z; cases z), done⟩
end
end DQ
namespace DS
open PySem PySem.Spec PyProof.Rows L2
section
variable {M : Mo}
def rEq0 (K : PySem.W.Frag) : R2 := fun x y H Q => ∃ a b xs, x = .ref a ∧ y = .ref b ∧ SqT K H a xs ∧ SqT K H b [] ∧ Q (.bl xs.isEmpty) H
theorem op_eq0 {X : Cx} (hu : X.A.units + 64 < cLine) : OpR X (compareOp .Eq) (rEq0 X.K) := by
  intro pins s σ H x y v u Q I rx ry h
  obtain ⟨a, b, xs, rfl, rfl, h1, h2, q⟩ := h
  cases rx
  cases ry
  obtain ⟨its, v1, t1, _⟩ := I.tuple h1
  obtain ⟨its2, v2, t2, _⟩ := I.tuple h2
  cases v2
  show wpAny _ _ (richCompare .Eq (.ref a) (.ref b)) _ _ _
  refine DQ.rc_tup0 (by omega) t1 t2 ⟨.bl xs.isEmpty, H, I, ?_, q⟩
  show Value.bool _ = _
  congr 1
  have e := v1.length
  cases xs with
  | nil => simp at e; simp [← e]
  | cons x r => cases its with
    | nil => simp at e
    | cons y r => simp
def eq0L : Sto → D → D → Option D := fun _ x y => match x, y with
  | .tup xs, .tup [] => some (.bl xs.isEmpty)
  | _, _ => none
theorem d_eq0 : OpD M.G (rEq0 M.K) eq0L := by
  intro w st x y dx dy d Q rel rx ry e q
  unfold eq0L at e
  split at e
  · cases e
    rename_i xs
    obtain ⟨a, vs, rfl, h1, h2⟩ := rx.tup_inv
    obtain ⟨b, ws, rfl, k1, k2⟩ := ry.tup_inv
    have k3 := k2.inv_nil'
    subst k3
    refine ⟨a, b, vs, rfl, rfl, Evl.ex_t rel.sub h1, Evl.ex_t rel.sub k1, ?_⟩
    have e : vs.isEmpty = xs.isEmpty := by
      have l := h2.1
      cases vs <;> cases xs <;> first | rfl | (simp at l)
    rw [e]
    exact q w _ (Step.refl w) rel (.bl _)
  · cases e
end
end DS
namespace DS
open PySem PySem.Spec PyProof.Rows L2
/-- a def in which lambdas are made: where, and its name as in the text -/
abbrev LamDef := (PySem.W.Frag → Addr) × Str
def cdT (K : PySem.W.Frag) (f : Addr) : Addr := He.tabOf K (cdA K f)
/-- the names of code objects of lambdas and of generator expressions of a def -/
def lamQ (q : Str) : Str := q ++ ".<locals>." ++ "<lambda>"
def tabL (tf : List LamDef) (K : PySem.W.Frag) : List (Addr × Str) := tf.map fun p => (cdT K (p.1 K), p.2)
def keepT (K : PySem.W.Frag) : PySem.W.Frag := K.filter fun q => !He.emptyTab q.2
def codesB (tf : List LamDef) : Bk := fun K => (tf.all fun p => PySem.W.codeHdIn K (cdA K (p.1 K)) (cdT K (p.1 K))) && ((tabL tf K).all fun p => (tabL tf K).all fun q => !(p.1 == q.1) || p.2 == q.2)
def emptiesB (g : Addr → Option Obj) (tf : List LamDef) (K : PySem.W.Frag) : Bool := tf.all fun p => match g (cdT K (p.1 K)) with
  | some o => He.emptyTab o
  | none => false
/-- what is known of the tables -/
structure TabsSay (tf : List LamDef) (h : Heap) (K : PySem.W.Frag) : Prop where
  code : codesB tf K = true
  out : ∀ p ∈ tf, K.lookup (cdT K (p.1 K)) = none
  empty : ∀ p ∈ tf, h.get? (cdT K (p.1 K)) = some { cls := .none, data := .fields #[] }
theorem keep_in {g : Addr → Option Obj} {K : PySem.W.Frag} (h : InG g K) : InG g (keepT K).reverse := fun a o m => h a o (List.mem_filter.mp (List.mem_reverse.mp m)).1
theorem keep_out {g : Addr → Option Obj} {K : PySem.W.Frag} (h : InG g K) {a : Addr} {o : Obj} (e : g a = some o) (t : He.emptyTab o = true) : (keepT K).reverse.lookup a = none := by
  cases q : (keepT K).reverse.lookup a with
  | none => rfl
  | some u =>
    obtain ⟨m1, m2⟩ := List.mem_filter.mp (List.mem_reverse.mp (lookup_mem q))
    have e2 := h a u m1
    rw [e] at e2
    cases e2
    have m2 : (!He.emptyTab o) = true := m2
    rw [t] at m2
    cases m2
theorem tabs_say {h : Heap} {K : PySem.W.Frag} {tf : List LamDef} (i : InG h.get? K) (e : (codesB tf (keepT K).reverse && emptiesB h.get? tf (keepT K).reverse) = true) : TabsSay tf h (keepT K).reverse := by
  obtain ⟨e1, e2⟩ := He.ba e
  have key : ∀ p ∈ tf, ∃ o, h.get? (cdT (keepT K).reverse (p.1 (keepT K).reverse)) = some o ∧ He.emptyTab o = true := fun p hp => by
    have z := List.all_eq_true.mp e2 p hp
    cases q : h.get? (cdT (keepT K).reverse (p.1 (keepT K).reverse)) with
    | none => rw [q] at z; cases z
    | some o => rw [q] at z; exact ⟨o, rfl, z⟩
  refine ⟨e1, fun p hp => ?_, fun p hp => ?_⟩
  · obtain ⟨o, h1, h2⟩ := key p hp
    exact keep_out i h1 h2
  · obtain ⟨o, h1, h2⟩ := key p hp
    rw [h1, He.emptyTab_eq h2]
/-- the pairs of code object and table -/
def csL (tf : List LamDef) (K : PySem.W.Frag) : List (Addr × Addr) := tf.map fun p => (cdA K (p.1 K), cdT K (p.1 K))
theorem laOk_of {M : Mo} {tf : List LamDef} {p : LamDef} {x : Str} (hx : p.2 = lamQ x) (hT : M.T = tabL tf M.K) (hp : p ∈ tf) (hc : codesB tf M.K = true) (ht : ∀ q ∈ csL tf M.K, LamX.TabB M.base M.mg q.1 q.2) : LaOk M (cdA M.K (p.1 M.K)) (cdT M.K (p.1 M.K)) (x ++ ".<locals>.") := by
  obtain ⟨h1, h2⟩ := He.ba hc
  have hx : p.2 = x ++ ".<locals>." ++ "<lambda>" := hx
  refine ⟨ht _ (List.mem_map.mpr ⟨p, hp, rfl⟩), ?_, fun q hq e => ?_⟩
  · rw [hT, ← hx]
    exact List.mem_map.mpr ⟨p, hp, rfl⟩
  · rw [hT] at hq
    have z := List.all_eq_true.mp (List.all_eq_true.mp h2 q hq) _ (List.mem_map.mpr ⟨p, hp, rfl⟩)
    have e : q.1 = cdT M.K (p.1 M.K) := e
    rw [e] at z
    have z : (!(cdT M.K (p.1 M.K) == cdT M.K (p.1 M.K)) || q.2 == p.2) = true := z
    rw [beq_self_eq_true] at z
    rw [← hx]
    exact eq_of_beq z
end DS
namespace DS
open PySem PySem.Spec PyProof.Rows L2
/-- the tracked part at the law's start: the script, if the head does not know it, and the tables -/
def startH (K : PySem.W.Frag) (a : Addr) (o : Obj) (ns : List Int) (ts : List Addr) : Hp := fun b => if b = a ∧ K.lookup a = none then some (.frz o (.lst (ns.map V.int))) else if b ∈ ts then some (.tbl #[]) else none
theorem startH_some {K : PySem.W.Frag} {a b : Addr} {o : Obj} {ns : List Int} {ts : List Addr} {u : HO} (h : startH K a o ns ts b = some u) : (b = a ∧ K.lookup a = none ∧ u = .frz o (.lst (ns.map V.int))) ∨ (b ∈ ts ∧ u = .tbl #[]) := by
  unfold startH at h
  split at h
  · rename_i z
    cases h
    exact .inl ⟨z.1, z.2, rfl⟩
  · split at h
    · rename_i z
      cases h
      exact .inr ⟨z, rfl⟩
    · cases h
theorem law_callG {P : Program} {w : World} {K : PySem.W.Frag} {mg mb : Str → Option Value} {k : Nat} {fa a : Addr} {cs : List (Addr × Addr)} {fd : FuncData} {x : Str} {sp : Sp} {s₁ : Shared} {vs : List Value} {ns : List Int}
    (KX : K.In s₁.heap) (hns : s₁.heap.Ns mainGlobals mg) (hb : s₁.heap.Ns builtinsNs mb) (hbb : ∀ x : Str, x ≠ "__name__" → mb x = bootBuiltins x) (hlim : s₁.heap.NoLimit) (hg : s₁.gens = #[])
    (hT : ∀ p ∈ cs, s₁.heap.get? p.2 = some { cls := .none, data := .fields #[] }) (nT : ∀ p ∈ cs, K.lookup p.2 = none) (C : ∀ p ∈ cs, PySem.W.CodeHd s₁.heap p.1 p.2)
    (hbm : ∃ (bm : Addr) (ob : Obj), mg "__builtins__" = some (.ref bm) ∧ bm ≠ builtinsNs ∧ s₁.heap.get? bm = some ob ∧ ob.cls = .type "module" ∧ ob.dict = some builtinsNs ∧ ob.data = .plain)
    (ha : s₁.heap.get? a = some { cls := .type "list", data := .seq vs.toArray }) (hi : IntsAre vs ns) (hl : ns.length ≤ sizeLine) (hr : Room k callerA)
    (F : ∀ base : Heap, K.In base → base.Ns mainGlobals mg → (∀ p ∈ cs, LamX.TabB base mg p.1 p.2) → FnG P w K mg base (L2.CX P w) k fa fd [x] sp) (hbind : ∀ (s : Shared) (u : Value), BindsTo s fd ⟨[u], []⟩ [(x, u)])
    (hsp : ∀ H : Hp, (∀ p ∈ cs, H p.2 = some (.tbl #[])) → SqL K H a (ns.map V.int) → sp [.ref a] H (fun v _ => v = .bl true) fun _ _ _ => False) :
    codeAny (model P w) callerA (.call (.ref fa) ⟨[.ref a], []⟩) (fun r s' => r = .ok (.ret (.bool true)) ∧ OldK s₁.heap s'.heap ∧ s'.os = s₁.os ∧ AllBare s'.gens) s₁ := by
  have rv := vals_ints hi
  have lenV := hi.length
  let so : Obj := { cls := .type "list", data := .seq vs.toArray }
  let ts := cs.map (·.2)
  let H := startH K a so ns ts
  have memT : ∀ p ∈ cs, p.2 ∈ ts := fun p hp => List.mem_map.mpr ⟨p, hp, rfl⟩
  have isT : ∀ b, b ∈ ts → s₁.heap.get? b = some { cls := .none, data := .fields #[] } := fun b m => by
    obtain ⟨p, hp, e⟩ := List.mem_map.mp m
    rw [← e]; exact hT p hp
  have outT : ∀ b, b ∈ ts → K.lookup b = none := fun b m => by
    obtain ⟨p, hp, e⟩ := List.mem_map.mp m
    rw [← e]; exact nT p hp
  have aT : a ∉ ts := fun m => by
    have z := isT a m
    rw [ha] at z
    cases congrArg (fun o : Option Obj => o.map Obj.cls) z
  have tblH : ∀ b, b ∈ ts → H b = some (.tbl #[]) := fun b m => by
    show startH K a so ns ts b = _
    unfold startH
    rw [if_neg (fun z : b = a ∧ K.lookup a = none => aT (z.1 ▸ m)), if_pos m]
  have scrH : SqL K H a (ns.map V.int) := by
    cases hk : K.lookup a with
    | none => exact .inl (.inr ⟨so, if_pos ⟨rfl, hk⟩⟩)
    | some o =>
      have e := KX a o hk
      rw [ha] at e
      cases e
      exact .inr ⟨_, vs.toArray, _, hk, rfl, rfl, rfl, by rw [List.size_toArray, lenV]; exact hl, by simpa using rv⟩
  have hok : HOk P w H s₁.heap := fun b u z => by
    rcases startH_some z with ⟨rfl, _, rfl⟩ | ⟨m, rfl⟩
    · exact ⟨ha, by rw [List.length_map]; exact hl, vs, _, rv, ha⟩
    · exact isT b m
  -- what is neither a list nor empty fields is not tracked
  have free : ∀ {b : Addr} {o : Obj}, s₁.heap.get? b = some o → (∀ vs n, o.data ≠ .seq vs n) → o.data ≠ .fields #[] → H b = none := fun {b o} e h1 h2 => by
    cases q : H b with
    | none => rfl
    | some u =>
      rcases startH_some q with ⟨rfl, _, _⟩ | ⟨m, _⟩
      · rw [ha] at e; cases e; exact (h1 _ _ rfl).elim
      · rw [isT b m] at e; cases e; exact (h2 rfl).elim
  have low : ∀ {b : Addr} {o : Obj}, s₁.heap.get? b = some o → H b = none → (hidT s₁.heap H).get? b = some o := fun e n => hidT_get e n
  have dict : ∀ {b : Addr} {o : Obj} {es : Array DictEntry} {ep : Nat}, s₁.heap.get? b = some o → o.data = .dict es ep → H b = none := fun e d => free e (fun vs n z => by rw [d] at z; cases z) fun z => by rw [d] at z; cases z
  have ns_low : ∀ {b : Addr} {m : Str → Option Value}, s₁.heap.Ns b m → (hidT s₁.heap H).Ns b m := fun ⟨o, es, ep, e, d, r⟩ => ⟨o, es, ep, low e (dict e d), d, r⟩
  have K_low : K.In (hidT s₁.heap H) := fun b o e => low (KX b o e) (by
    cases q : H b with
    | none => rfl
    | some u =>
      rcases startH_some q with ⟨rfl, z, _⟩ | ⟨m, _⟩
      · rw [z] at e; cases e
      · rw [outT b m] at e; cases e)
  have M_low : L2.Mod K mg (hidT s₁.heap H) := ⟨K_low, ns_low hns, ⟨mb, ns_low hb, hbb⟩, let ⟨mc, h1, h2⟩ := hlim; ⟨mc, ns_low h1, h2⟩⟩
  have T_low : ∀ p ∈ cs, LamX.TabB (hidT s₁.heap H) mg p.1 p.2 := fun p hp => by
    have gT := hT p hp
    obtain ⟨o, us, file, tf, flags, tg, inF, text, tt, e1, r1, r2, r⟩ := C p hp
    obtain ⟨bm, ob, b1, b2, b3, b4, b5, b6⟩ := hbm
    have gne : ∀ {b : Addr}, (∃ o es ep, s₁.heap.get? b = some o ∧ o.data = .dict es ep) → ∀ {c : Addr} {u : Obj}, s₁.heap.get? c = some u → (∀ es ep, u.data ≠ .dict es ep) → c ≠ b := by
      rintro b ⟨o, es, ep, e, d⟩ c u e' n z
      rw [z, e] at e'
      cases e'
      exact n _ _ d
    have gm : ∃ o es ep, s₁.heap.get? mainGlobals = some o ∧ o.data = .dict es ep := let ⟨o, es, ep, e, d, _⟩ := hns; ⟨o, es, ep, e, d⟩
    refine ⟨⟨o, us, file, tf, flags, tg, inF, text, tt, low e1 (free e1 (fun vs n z => ?_) fun z => ?_), r1, r2, r⟩, ⟨bm, ob, b1, b2, gne gm b3 (fun es ep z => ?_), fun z => ?_, low b3 (free b3 (fun vs n z => ?_) fun z => ?_), b4, b5, b6⟩, fun z => gne gm gT (fun es ep z => by cases z) z.symm⟩
    · rw [r2] at z; cases z
    · rw [r2] at z
      cases z
      simp at r
    · rw [b6] at z; cases z
    · rw [z, gT] at b3; cases b3; cases b6
    · rw [b6] at z; cases z
    · rw [b6] at z; cases z
  have e0 : Env0 P w K mg (hidT s₁.heap H) callerA [] s₁ H := ⟨rfl, M_low, fun b o e => of_hidT e, Nat.le_of_eq (hidT_size _ _), trivial, fun b hb => absurd (show b ∈ ([] : List Addr) from hb) (by simp), hok, .of_eq hg⟩
  refine codeAny_mono ((F _ K_low (ns_low hns) T_low).run callerA [] s₁ H ⟨[.ref a], []⟩ [.ref a] [.ref a] _ _ hr rfl e0 (hbind s₁ (.ref a)) (.cons rfl .nil) (hsp H (fun p hp => tblH _ (memT p hp)) scrH)) fun r s' h => ?_
  cases r with
  | error e =>
    obtain ⟨_, _, _, _, _, _, _, _, _, _, _, _, z⟩ := (show L2.CX P w [] H s₁ (fun _ _ _ => False) e s' from h)
    exact z.elim
  | ok fl =>
    cases fl with
    | next => exact False.elim h
    | brk => exact False.elim h
    | cont => exact False.elim h
    | ret u =>
      obtain ⟨v, H', os, bare, un, hok', r', q⟩ := h
      have q : v = .bl true := q
      subst q
      obtain rfl : u = Value.bool true := r'
      have kept : ∀ b o, b ∉ ts → s₁.heap.get? b = some o → s'.heap.get? b = some o := fun b o nb e => by
        cases q : H b with
        | none => exact un.keep b o e q (by intro z; exact absurd (show b ∈ ([] : List Addr) from z) (by simp)) (by simp)
        | some u =>
          rcases startH_some q with ⟨rfl, _, rfl⟩ | ⟨m, _⟩
          · obtain ⟨e2, _⟩ := hok' b _ (un.frzs b _ _ q)
            rw [ha] at e
            cases e
            exact e2
          · exact absurd m nb
      have grown : ∀ b, b ∈ ts → ∃ more : Array Value, s'.heap.get? b = some { cls := .none, data := .fields more } := fun b m => by
        obtain ⟨more, z⟩ := un.tbls b #[] (tblH b m)
        exact ⟨_, hok' b _ z⟩
      refine ⟨rfl, ⟨fun b o e => ?_, fun b o e => ?_⟩, os, bare⟩
      · by_cases m : b ∈ ts
        · obtain ⟨p, hp, ep⟩ := List.mem_map.mp m
          obtain ⟨more, hm⟩ := grown b m
          rw [isT b m] at e
          cases e
          have tab := (C p hp).tab (hT p hp)
          rw [ep] at tab
          exact .inr (.inl ⟨tab.isCodeTable, rfl, #[], more, rfl, by rw [Array.empty_append]; exact hm⟩)
        · exact .inl (kept b o m e)
      · by_cases m : b ∈ ts
        · obtain ⟨more, hm⟩ := grown b m
          exact ⟨_, hm⟩
        · exact ⟨o, kept b o m e⟩
/-- what is known of the law's promise at the head's heap h -/
def LawAtG (l : PySem.W.OpenLaw) (w : World) (K : PySem.W.Frag) (k n : Nat) (x : Str) (mg : Str → Option Value) (fa : Addr) (h : Heap) : Prop :=
  ∃ (fd : FuncData) (cs : List (Addr × Addr)) (sp : Sp), (∀ p ∈ cs, h.get? p.2 = some { cls := .none, data := .fields #[] }) ∧ (∀ p ∈ cs, K.lookup p.2 = none) ∧ (∀ p ∈ cs, PySem.W.CodeHd h p.1 p.2) ∧ (∀ (s : Shared) (u : Value), BindsTo s fd ⟨[u], []⟩ [(x, u)]) ∧
    (∀ (H : Hp) (a : Addr) (ns : List Int), ns.length ≤ n → (∀ p ∈ cs, H p.2 = some (.tbl #[])) → SqL K H a (ns.map V.int) → sp [.ref a] H (fun v _ => v = .bl true) fun _ _ _ => False) ∧
    ∀ base : Heap, K.In base → base.Ns mainGlobals mg → (∀ p ∈ cs, LamX.TabB base mg p.1 p.2) → FnG l.prog w K mg base (L2.CX l.prog w) k fa fd [x] sp
theorem walk_ofG {l : PySem.W.OpenLaw} {n k : Nat} {q : Program} {loose : List Str} {XP : (Str → Option Value) → Heap → Prop} {YP : World → Heap → Prop} {d : DefRec} {x : Str}
    (hn : l.most = some n) (hn2 : n ≤ sizeLine) (hdf : d.params.defaults = []) (hr : Room k callerA)
    (F : ∀ (w : World) (mg : Str → Option Value) (fa : Addr) (h : Heap), YP w h → h.Ns mainGlobals mg → mg d.name = some (.ref fa) → ∃ K : PySem.W.Frag, K.In h ∧ LawAtG l w K k n x mg fa h) :
    PySem.W.WalkO q loose XP YP l.row.toRowW d [] (fun f vs => PySem.call f vs) := by
  refine Att.attach_callB hn hdf fun w s₀ s₁ mg mb fa o pm cd doc a vs ns G Y ho hd hcd hmg hobj hints hlen hbits hg => ?_
  obtain ⟨K, KX, fd, cs, sp, hT, nT, C, hb, hsp, hF⟩ := F w mg fa _ Y G.T.g hmg
  exact law_callG KX G.T.g G.T.b G.T.builtins G.T.nolimit hg hT nT C G.T.bmain hobj hints (Nat.le_trans hlen hn2) hr hF hb fun H hH hS => hsp H a ns hlen hH hS
/-- the law's def gives True: its promise -/
theorem law_spT {K : PySem.W.Frag} {mg : Str → Option Value} {T : List (Addr × Str)} {ff : FF} {H : Hp} {a : Addr} {ns : List Int} (h : ff [] [.scr (ns.map D.int)] = .ok (.bl true) []) (hS : SqL K H a (ns.map V.int)) (hT : ∀ p ∈ T, H p.1 = some (.tbl #[])) :
    spD ⟨K, mg, T, fun _ => none⟩ 1 ff [.ref a] H (fun v _ => v = .bl true) fun _ _ _ => False := by
  let I : Hp := fun b => match H b with
    | some (.tbl _) => none
    | u => u
  have sub : ∀ b o, I b = some o → H b = some o ∧ ∀ ps, o ≠ .tbl ps := fun b o e => by
    have e : (match H b with
      | some (.tbl _) => none
      | u => u) = some o := e
    split at e
    · cases e
    · rename_i n
      exact ⟨e, fun ps z => n ps (by rw [e, z])⟩
  have keep : ∀ b o, H b = some o → (∀ ps, o ≠ .tbl ps) → I b = some o := fun b o e n => by
    show (match H b with
      | some (.tbl _) => none
      | u => u) = some o
    rw [e]
    cases o with
    | tbl ps => exact (n ps rfl).elim
    | _ => rfl
  have sc : SqL K I a (ns.map V.int) := by
    rcases hS with (h1 | ⟨o, h1⟩) | h1
    · exact .inl (.inl (keep _ _ h1 fun _ z => nomatch z))
    · exact .inl (.inr ⟨o, keep _ _ h1 fun _ z => nomatch z⟩)
    · exact .inr h1
  refine ⟨rfl, ⟨I, [], H⟩, [], [.scr (ns.map D.int)], rfl, ⟨fun b o e => (sub b o e).1, rfl, List.nodup_nil, fun i a c hi _ => by simp at hi, ⟨fun p hp => LamX.TabS.nil (hT p hp), fun b ps e => (sub b _ e).2 ps rfl, fun _ _ _ _ z => nomatch z⟩⟩, Reps.cons (.scr sc (reps_ints (G := ⟨K, mg, T, fun _ => none⟩) (I := I) (ph := []) ns).1 (reps_ints (G := ⟨K, mg, T, fun _ => none⟩) (I := I) (ph := []) ns).2) Reps.nil, ?_⟩
  rw [h]
  exact fun w' v _ _ rv => bl_rep rv
end DS
namespace DS
open PySem PySem.Spec PyProof.Rows L2
/-- what stays the same for all errors over one built-in class -/
structure ExcK (B newId initId : String) (bmB : List Value) : Prop where
  kf : PySem.W.KxsFacts B initId
  fb : ExcBaseFacts B newId initId bmB
  sf : StoreFacts B bmB "object.__setattr__" "object"
/-- the text of the def -/
structure InitTx (params : Arguments) (body : List Stmt) (scope : Scope) (p f msg : Str) : Prop where
  ps : ∃ p1 p2, params = { posonlyargs := [], args := [{ arg := "self", annotation := none, pos := p1 }, { arg := p, annotation := none, pos := p2 }], vararg := none, kwonlyargs := [], kw_defaults := [], kwarg := none, defaults := [] }
  bd : ∃ (j : Nat) (q1 q2 q3 q4 q5 q6 q7 q8 q9 q10 : Pos), body = [.Expr (.Call (.Attribute (.Call (.Name "super" q1) [] [] q2) "__init__" q3) [.Constant (.str msg) j q4] [] q5) q6, .Assign [.Attribute (.Name "self" q7) f q8] (.Name p q9) q10] ∧
    ∀ env : Env, ∃ pl : Sem Bool, eval (.Call (.Attribute (.Call (.Name "super" q1) [] [] q2) "__init__" q3) [.Constant (.str msg) j q4] [] q5) env = (do
      let ov ← attributeBase (.Call (.Name "super" q1) [] [] q2) "__init__" env (eval (.Call (.Name "super" q1) [] [] q2) env)
      standAt q3.atName
      let (f, first) ← holding [ov] (getMethod ov "__init__" pl)
      callWith q5 f first (backTo q5 (starEach [.Constant (.str msg) j q4] env)) [])
  bind : ∀ (q : Str) (doc pm cd ct x v : Value) (an : Option Addr) (cc : Addr), bindArgs (PySem.W.ksFn "__init__" q params body scope .none .none doc pm an cd ct cc) ⟨[x, v], []⟩ = pure ([("self", x), (p, v)] : List (Str × Value))
  kind : scope.kind = .function
  gen : scope.isGenerator = false
  co : scope.isCoroutine = false
  self : scope.names.lookup ("self" : Str) = some .local
  par : scope.names.lookup p = some .local
  sup : scope.names.lookup ("super" : Str) = some .globalImplicit
  cls : scope.names.lookup ("__class__" : Str) = some .free
  cell : ∀ y ∈ scope.names, y.2 ≠ .cell
  ne : p ≠ "self"
  dbg : (p == ("__debug__" : Str)) = false
/-- what the written part says of the class C and its __init__ at fI -/
structure ErrTxt (K : PySem.W.Frag) (C fI : Addr) (q file : Str) (params : Arguments) (body : List Stmt) (scope : Scope) (f : Str) (B newId initId : String) (bmB : List Value) : Prop where
  fn : ∃ (oc : Value) (od : Option Addr) (doc pm ct : Value) (an : Option Addr) (osl : Array (Option Value)) (cda cc : Addr) (ccl cl : Value) (cdd cld : Option Addr) (vs : Array Value) (tf : Tok) (ccs csl : Array (Option Value)),
    K.lookup fI = some ⟨oc, od, .func (PySem.W.ksFn "__init__" q params body scope .none .none doc pm an (.ref cda) ct cc), osl⟩ ∧ PySem.W.codeIn K (.ref cda) q = true ∧ K.lookup cda = some ⟨ccl, cdd, .fields vs, ccs⟩ ∧ vs[2]? = some (.str file tf) ∧ K.lookup cc = some ⟨cl, cld, .cell (some (.ref C)), csl⟩
  cd : ∃ cd, PySem.W.clsIn K C = some cd
  init : PySem.W.findIn K (.ref C) "__init__" = some (some (.ref fI))
  isf : PySem.W.isFn K (.ref fI) = true
  exi : PySem.W.excInitIn K C bmB newId = true
  sa : PySem.W.findIn K (.ref C) "__setattr__" = some (some (.builtin "object.__setattr__"))
  over : PySem.W.excOver K C bmB = true
  tk : PySem.W.takerIn K C f = some none
  hd : PySem.W.hasDictIn K C = true
  kp : PySem.W.keepIn K (.ref C) = true
  exC : PySem.W.subIn K (.ref C) (.type "BaseException") = some true
  subB : PySem.W.subIn K (.ref C) (.type B) = some true
  tyC : PySem.W.typeIn K (.ref C) = some (.type "type")
  third : PySem.W.nsIn K cStatics "thirdparty.any" = some none
  sup : PySem.W.ks_superIn K C C "__init__" = some (some (.builtin initId))
  mroC : PySem.W.mroIn K C (.ref C) = some true
/-- what __init__ leaves of a fresh error at x -/
structure InitEnd (h h' : Heap) (x C dx t1 : Addr) (f : Str) (v : Value) : Prop where
  keep : ∀ b o, b ≠ x → h.get? b = some o → h'.get? b = some o
  obj : h'.get? x = some (PySem.W.excObj C t1 (some dx) .none)
  dbig : h.objs.size ≤ dx
  dne : dx ≠ x
  ns : h'.Ns1 dx (fun y => if y = f then some v else none)
theorem ns1_put {P : Params} {h : Heap} {dx : Addr} {f : Str} {t : Tok} {v : Value} {n : Nat} (e : h.get? dx = some (PySem.W.dictOf (PySem.W.putL f (PyData.keyHash P f) (.str f t) v []) n)) : h.Ns1 dx (fun y => if y = f then some v else none) := by
  refine ⟨_, _, _, e, rfl, fun b hb => ?_, ?_, fun y => ?_⟩
  · have hb : b ∈ #[(⟨PyData.keyHash P f, .str f t, v⟩ : DictEntry)] := hb
    simp at hb
    subst hb
    exact ⟨f, t, rfl⟩
  · show UniqKeys #[(⟨PyData.keyHash P f, .str f t, v⟩ : DictEntry)]
    unfold UniqKeys
    simp
  · show nsFind #[(⟨PyData.keyHash P f, .str f t, v⟩ : DictEntry)] y = _
    by_cases hy : y = f
    · subst hy
      simp [nsFind, findBy, Value.isStr]
    · simp [nsFind, findBy, Value.isStr, hy, Ne.symm hy]
section
variable {prog : Program} {w : World} {A : Around} {R : Result → Shared → Prop} {s : Shared} {K : PySem.W.Frag} {mg mb : Str → Option Value} {C fI : Addr} {q file : Str} {params : Arguments} {body : List Stmt} {scope : Scope} {p f msg : Str} {B newId initId : String} {bmB : List Value}
theorem init_walk (EK : ExcK B newId initId bmB) (TX : InitTx params body scope p f msg) (T : ErrTxt K C fI q file params body scope f B newId initId bmB) {x t0 : Addr} {v : Value} (hfile : ((prog.main.file : Str) == file) = true) (htop : (prog.main.scope.names.lookup ("super" : Str)).isSome = false)
    (X : K.In s.heap) (hg : s.heap.Ns mainGlobals mg) (hb : s.heap.Ns builtinsNs mb) (hbb : ∀ x : Str, x ≠ "__name__" → mb x = bootBuiltins x) (hsup : mg "super" = none) (hlim : s.heap.NoLimit) (hx : s.heap.get? x = some (PySem.W.excObj C t0 none .none)) (hnx : K.lookup x = none) (hroom : A.depth < recursionLimit)
    (hq : ∀ h' tk dx t1, InitEnd s.heap h' x C dx t1 f v → R (.ok (.ret .none)) { s with heap := h', toks := tk }) :
    codeAny (model prog w) A (.call (.ref fI) ⟨[.ref x, v], []⟩) R s := by
  obtain ⟨oc, od, doc, pm, ct, an, osl, cda, cc, ccl, cl, cdd, cld, vs, tf, ccs, csl, ho, hcd, hcode, hvs, hcell⟩ := T.fn
  obtain ⟨p1, p2, hps⟩ := TX.ps
  obtain ⟨j, q1, q2, q3, q4, q5, q6, q7, q8, q9, q10, hbd, hev⟩ := TX.bd
  have hbn := TX.bind q doc pm (.ref cda) ct (.ref x) v an cc
  subst hps hbd
  obtain ⟨cdD, hD⟩ := T.cd
  have ebind : ([("self", Value.ref x), (p, v)] : List (Str × Value)).reverse.lookup p = some v := by simp [List.lookup]
  have eself : ([("self", Value.ref x), (p, v)] : List (Str × Value)).reverse.lookup ("self" : Str) = some (.ref x) := by
    have z : (("self" : Str) == p) = false := by simpa using Ne.symm TX.ne
    simp [List.lookup, z]
  refine ks_codeAny_call_defAt (binds := [("self", .ref x), (p, v)]) hroom (X _ _ ho) rfl hlim (PySem.W.codeRec_of X hcd) rfl (BindsTo.of_eq hbn) TX.cell (fun y hy => ?_) (fun h₁ hns k₁ => ?_) TX.co TX.gen TX.kind
  · simp at hy
    rcases hy with rfl | rfl
    · exact TX.self
    · exact TX.par
  have xL : x ≠ s.heap.objs.size := Nat.ne_of_lt (Heap.lt_size hx)
  have hx₁ := k₁ _ _ hx
  have F : PyProof.Rows.Fr (PySem.W.hideAll s.heap [x]) s.heap.objs.size h₁ (fun y => ([("self", Value.ref x), (p, v)] : List (Str × Value)).reverse.lookup y) := ⟨hns, fun b o e => k₁ b o (PySem.W.of_hideAll _ e), Nat.le_of_eq (PySem.W.hideAll_size _ _)⟩
  have N : News (PySem.W.hideAll s.heap [x]) s.heap.objs.size h₁ [(x, PySem.W.excObj C t0 none .none)] := fun r hr => by
    rcases List.mem_cons.mp hr with rfl | hr
    · exact ⟨hx₁, xL, PySem.W.hideAll_none _ (by simp)⟩
    · cases hr
  have X₀ : K.In (PySem.W.hideAll s.heap [x]) := fun b o e => PySem.W.hideAll_get _ (X b o e) (fun z => by
    rw [List.mem_singleton.mp z, hnx] at e
    cases e)
  have X₁ : K.In h₁ := X.keeps k₁
  obtain ⟨oD, hD1, hD2⟩ : ∃ oD, h₁.get? C = some oD ∧ oD.data = .cls cdD := by
    unfold PySem.W.clsIn at hD
    split at hD
    · rename_i c d cd' sl ho2
      cases hD
      exact ⟨_, X₁ _ _ ho2, rfl⟩
    · cases hD
  have I : PySem.W.InstAt h₁ x (PySem.W.excObj C t0 none .none) C none := ⟨hx₁, rfl, rfl, trivial⟩
  have big : s.heap.objs.size < h₁.objs.size := F.ns.lt
  -- super().__init__('..')
  obtain ⟨pl, hev⟩ := hev (PySem.W.ksEnv q scope s.heap.objs.size fI (.ref cda) cc)
  refine ks_wpAt_execs_cons (ks_wpAt_Expr_any (ks_wpAt_MethodCall (pl := pl) ?_ hev) (by show (scope.kind == .module && _) = false; rw [TX.kind]; rfl))
  -- super()
  refine ks_wpAt_super_base (env := PySem.W.ksEnv q scope s.heap.objs.size fI (.ref cda) cc) TX.sup TX.cls rfl rfl (X₁ _ _ ho) rfl rfl rfl (X₁ _ _ hcode) rfl hvs hfile htop ?_
  refine PySem.W.ks_loadName_global TX.kind TX.sup (PySem.Calls.loadGlobal_builtin (env := PySem.W.ksEnv q scope s.heap.objs.size fI (.ref cda) cc) (hg.keeps k₁) hsup (hb.keeps k₁) ((hbb _ (by decide +kernel)).trans (by first | boot_by_name | rfl | kernel_rfl)) ⟨rfl, ?_⟩)
  refine wpAny_loadName_free TX.kind TX.cls rfl ⟨_, X₁ _ _ hcell, rfl⟩ ?_
  refine wpAny_loadName_local TX.kind TX.self hns eself ?_
  refine ks_wpAny_isType_cls hD1 hD2 ⟨rfl, ?_⟩
  refine ks_wpAny_call_super hD1 hD2 hx₁ rfl (fun c e => nomatch e) (PySem.W.looks_mroIn X₁ T.mroC) (fun h₂ e₂ k₂ => ?_)
  obtain ⟨F₂, N₂, l₂⟩ := PySem.W.ks_newsPush (s := { s with heap := h₁ }) F N rfl e₂ k₂
  have I₂ : PySem.W.InstAt h₂ x (PySem.W.excObj C t0 none .none) C none := ⟨k₂ _ _ hx₁, rfl, rfl, trivial⟩
  -- .__init__
  refine PySem.W.kxs_method EK.kf F₂ X₀ N₂ (List.mem_cons_self) I₂ T.third T.sup T.subB rfl (fun u h₃ F₃ N₃ l₃ => ?_)
  refine PySem.W.kxs_callWith1 N₃ (List.mem_cons_self) ?_ rfl rfl
  show wpAny _ _ (spliced [(false, eval (.Constant (.str msg) j q4) (PySem.W.ksEnv q scope s.heap.objs.size fI (.ref cda) cc))]) _ _ _
  refine Calls.spliced_cons ?_
  refine Calls.Constant_str ?_
  refine Calls.spliced_nil ⟨(N₃ _ List.mem_cons_self).1, ?_⟩
  have ne2 : ∀ r ∈ [(s.heap.objs.size, PySem.W.excObj C t0 none .none)], True := fun _ _ => trivial
  have so_ne : h₁.objs.size ≠ x := fun z => by
    have y := l₂ (x, PySem.W.excObj C t0 none .none) (by simp)
    rw [z] at y
    exact Nat.lt_irrefl _ y
  have u_so : u ≠ h₁.objs.size := fun z => by
    have y := l₃ (h₁.objs.size, PySem.W.ks_superObj C x C) List.mem_cons_self
    rw [z] at y
    exact Nat.lt_irrefl _ y
  have u_ne : u ≠ x := fun z => by
    have y := l₃ (x, PySem.W.excObj C t0 none .none) (by simp)
    rw [z] at y
    exact Nat.lt_irrefl _ y
  refine PySem.W.kxs_call F₃ X₀ N₃ EK.fb T.exi List.mem_cons_self (.tail u_ne (.tail so_ne (.head fun _ z => nomatch z))) (by show 1 ≤ sizeLine; rw [sizeLine_eq]; decide) (fun t₄ h₄ F₄ N₄ l₄ => ?_)
  -- self.f = p
  refine ks_wpAt_execs_cons (wpAt_of_wpAny (plainObj_wpAny_Assign_Attribute ?_))
  refine wpAny_Name (wpAny_loadName_local TX.kind TX.par F₄.ns ebind ?_) TX.dbg
  refine wpAny_Name (wpAny_loadName_local TX.kind TX.self F₄.ns eself ?_) (by decide)
  have t_u : t₄ ≠ u := fun z => by
    have y := l₄ (u, PySem.W.kxs_mw initId x) List.mem_cons_self
    rw [z] at y
    exact Nat.lt_irrefl _ y
  have t_so : t₄ ≠ h₁.objs.size := fun z => by
    have y := l₄ (h₁.objs.size, PySem.W.ks_superObj C x C) (by simp)
    rw [z] at y
    exact Nat.lt_irrefl _ y
  have t_x : t₄ ≠ x := fun z => by
    have y := l₄ (x, PySem.W.excObj C t0 none .none) (by simp)
    rw [z] at y
    exact Nat.lt_irrefl _ y
  refine PySem.W.set_exc0 (x := x) (t := t₄) (c2 := .none) EK.sf F₄ X₀ N₄ (by simp) T.sa T.over T.tk T.hd rfl (.tail t_x (.tail u_ne (.tail so_ne (.head fun _ z => nomatch z)))) (show 1 ≤ 1000 by decide) (fun dx h₅ F₅ N₅ l₅ => ?_)
  have dx_x : x < dx := l₅ (x, PySem.W.excObj C t₄ none .none) (by simp)
  have dx_so : h₁.objs.size < dx := l₅ (h₁.objs.size, PySem.W.ks_superObj C x C) (by simp)
  refine wpAt_of_wpAny (wpAny_execs_nil (hq h₅ _ dx t₄ ⟨fun b o hbx e => ?_, (N₅ (x, PySem.W.excObj C t₄ (some dx) .none) (by simp)).1, Nat.le_of_lt (Nat.lt_trans big dx_so), Nat.ne_of_gt dx_x, ?_⟩))
  · exact F₅.keep b o (PySem.W.hideAll_get _ e (fun z => hbx (List.mem_singleton.mp z)))
  · exact ns1_put (N₅ _ List.mem_cons_self).1
/-- a made error -/
structure ErrMade (h h' : Heap) (e C d : Addr) (f : Str) (v : Value) : Prop where
  keep : ∀ b o, h.get? b = some o → h'.get? b = some o
  new : h.objs.size ≤ e
  obj : ∃ oe vs, h'.get? e = some oe ∧ oe.cls = .ref C ∧ oe.dict = some d ∧ oe.data = .fields vs ∧ vs[1]? = some .none
  dbig : h.objs.size ≤ d
  dne : d ≠ e
  ns : h'.Ns1 d (fun y => if y = f then some v else none)
theorem err_made (EK : ExcK B newId initId bmB) (TX : InitTx params body scope p f msg) (T : ErrTxt K C fI q file params body scope f B newId initId bmB) {v : Value} (hfile : ((prog.main.file : Str) == file) = true) (htop : (prog.main.scope.names.lookup ("super" : Str)).isSome = false)
    (X : K.In s.heap) (hg : s.heap.Ns mainGlobals mg) (hb : s.heap.Ns builtinsNs mb) (hbb : ∀ x : Str, x ≠ "__name__" → mb x = bootBuiltins x) (hsup : mg "super" = none) (hlim : s.heap.NoLimit) (hroom : A.depth + 1 < recursionLimit)
    (hq : ∀ h' tk e d, ErrMade s.heap h' e C d f v → R (.ok (.ret (.ref e))) { s with heap := h', toks := tk }) :
    codeAny (model prog w) A (.call (.ref C) ⟨[v], []⟩) R s := by
  obtain ⟨nm, N, qn, bs, bm, hdct, sn, sub, ab, col, dd, k0, k1, k2, k3, k5, hC, hT⟩ := PySem.W.excInit_of X T.exi
  obtain ⟨hp, g, dr, tk, os⟩ := s
  have k : ∀ b o, hp.get? b = some o → ((hp.push (PySem.W.kdv_tup [v])).push (HandSPX.excO C hp.objs.size)).get? b = some o := fun b o e => Heap.get?_push_of_some _ (Heap.get?_push_of_some _ e)
  have hget : ((hp.push (PySem.W.kdv_tup [v])).push (HandSPX.excO C hp.objs.size)).get? (hp.objs.size + 1) = some (HandSPX.excO C hp.objs.size) := by heap_get
  have hnx : K.lookup (hp.objs.size + 1) = none := by
    cases e : K.lookup (hp.objs.size + 1) with
    | none => rfl
    | some o =>
      have z : hp.get? (hp.objs.size + 1) = some o := X _ _ e
      exact absurd (Nat.lt_of_succ_lt (Heap.lt_size z)) (Nat.lt_irrefl _)
  obtain ⟨oI, hoI, hcI⟩ : ∃ oI, hp.get? fI = some oI ∧ oI.cls = .type "function" := by
    obtain ⟨o, ho, hc⟩ := Option.map_eq_some_iff.mp (show (K.lookup fI).map (·.cls) = some (.type "function") from beq_iff_eq.mp T.isf)
    exact ⟨o, X _ _ ho, hc⟩
  refine HandSPX.call_own EK.fb hT hC (PySem.W.looks_findIn X T.init) (fun self => PySem.W.exc_bind hoI hcI self) (by show 1 ≤ sizeLine; rw [sizeLine_eq]; decide) ?_
  refine init_walk (s := ⟨(hp.push (PySem.W.kdv_tup [v])).push (HandSPX.excO C hp.objs.size), g, dr, tk, os⟩) EK TX T hfile htop (X.keeps k) (hg.keeps k) (hb.keeps k) hbb hsup (hlim.keeps k) hget hnx ?_ fun h' tk' dx t1 M => ?_
  · show A.depth + 1 < recursionLimit
    exact hroom
  · have old : ∀ b o, hp.get? b = some o → h'.get? b = some o := fun b o e => M.keep b o (Nat.ne_of_lt (Nat.lt_succ_of_lt (Heap.lt_size e))) (k b o e)
    have z : hp.objs.size + 1 + 1 ≤ dx := by
      have z := M.dbig
      rw [Heap.size_push, Heap.size_push] at z
      exact z
    exact ⟨rfl, hq h' tk' (hp.objs.size + 1) dx ⟨old, Nat.le_succ _, ⟨_, _, M.obj, rfl, rfl, rfl, rfl⟩, Nat.le_trans (Nat.le_trans (Nat.le_succ _) (Nat.le_succ _)) z, M.dne, M.ns⟩⟩
end
/-- the error x of the module, which keeps its argument under f -/
structure XKeep (M : Mo) (x f : Str) : Prop where
  ex : ∃ (C fI : Addr) (q file p msg : Str) (params : Arguments) (body : List Stmt) (scope : Scope) (B newId initId : String) (bmB : List Value), M.mg x = some (.ref C) ∧ ExcK B newId initId bmB ∧ InitTx params body scope p f msg ∧ ErrTxt M.K C fI q file params body scope f B newId initId bmB ∧
    ((M.P.main.file : Str) == file) = true ∧ (M.P.main.scope.names.lookup ("super" : Str)).isSome = false ∧ M.mg "super" = none ∧ XfC M.K C ∧ PySem.W.findIn M.K (.ref C) f = some none
theorem relO_one {f : Str} {v : V} {v' : Value} (r : RelV v v') (y : Str) : RelO (List.lookup y [(f, v)]) (if y = f then some v' else none) := by
  by_cases hw : y = f
  · subst hw
    rw [if_pos rfl]
    simp only [List.lookup, beq_self_eq_true]
    exact r
  · rw [if_neg hw]
    have qw : (y == f) = false := by simpa using hw
    simp only [List.lookup, qw]
    trivial
/-- X(e) -/
def tMkK (C : Addr) (f : Str) (ta : TA) : L2.St → Hp → XK → Prop := fun σ H Q => ta σ H fun vs H1 => ∃ v, vs = [v] ∧ ∀ d, H1 d = none → Q (.ref C) (some d) (upd H1 d (.xd [(f, v)]))
section
variable {M : Mo} {k : Nat} {W : WX} {N : List Str} {sc : Sc} {x f : Str} {a : Expr} {fa : EE} {p pos pos2 : Pos}
theorem pmk_keep {X : Cx} {C fI : Addr} {q file pn msg : Str} {params : Arguments} {body : List Stmt} {scope : Scope} {B newId initId : String} {bmB : List Value} {ta : TA} (EK : ExcK B newId initId bmB) (TX : InitTx params body scope pn f msg) (T : ErrTxt X.K C fI q file params body scope f B newId initId bmB)
    (hC : X.mg x = some (.ref C)) (hfile : ((X.prog.main.file : Str) == file) = true) (htop : (X.prog.main.scope.names.lookup ("super" : Str)).isSome = false) (hsup : X.mg "super" = none) (hr : Room k X.A) (ha : PA X [a] ta) (hg : Gl X x) (h1 : (x == ("__debug__" : Str)) = false)
    (he : starEach (a :: []) X.env = (false, eval a X.env) :: starEach [] X.env) (hpl : (backTo pos (starEach [] X.env)).any (·.1) = false) :
    PMk X (.Call (.Name x p) [a] [] pos) (tMkK C f ta) := by
  intro pins s σ H Q I h
  refine wpAny_Call_Name_kw (ld_glob I hg hC ?_ h1)
  refine PySem.W.callWith_K (h₀ := X.base) I.ok.mod.kin T.kp (thn (ha.run pos pins s σ H _ I h) fun us s1 hh => ?_) he hpl
  obtain ⟨vs, H1, I1, r1, v, ev, q1⟩ := hh
  subst ev
  refine ⟨I1.kIn, ?_⟩
  cases r1 with
  | cons rv rn =>
    rename_i v' us'
    cases rn
    show wpAny _ _ (call (.ref C) [v']) _ _ _
    have hlim := I1.nolimit
    obtain ⟨mb, hb, hbb⟩ := I1.ok.mod.blt
    have kb : ∀ b o, X.base.get? b = some o → s1.heap.get? b = some o := fun b o e => (I1.env0.bs b o e).1
    obtain ⟨hp, g, dr, tk, os⟩ := s1
    refine wpAny_call (err_made EK TX T hfile htop I1.kIn (I1.ok.mod.glob.keeps kb) (hb.keeps kb) hbb hsup hlim (by have := hr.dp; omega) fun h' tk' e d M => ?_)
    show MkP X pins σ Q (.ref e) ⟨h', g, dr, tk', os⟩
    obtain ⟨oe, fv, hoe, hc, hd, hdat, h1⟩ := M.obj
    have hns := M.ns
    obtain ⟨G', g1, g2⟩ := restrict h' fun b => decide (b ≠ e)
    have gk : ∀ b, b ≠ e → G'.get? b = h'.get? b := fun b hb => g1 b (decide_eq_true hb)
    have ge : G'.get? e = none := g2 e (by simp)
    have old : ∀ b o, hp.get? b = some o → G'.get? b = some o := fun b o q => (gk b (Nat.ne_of_lt (Nat.lt_of_lt_of_le (Heap.lt_size q) M.new))).trans (M.keep b o q)
    have ob : ObjOk X.prog X.w (upd H1 d (.xd [(f, v)])) G' d (.xd [(f, v)]) := ⟨_, hns.at (fun o q => (gk d M.dne).trans q), fun y => relO_one rv y⟩
    have J : Inv X pins σ (upd H1 d (.xd [(f, v)])) ⟨G', g, dr, tk', os⟩ := I1.laid (t' := tk') old M.dbig ob
    refine ⟨e, oe, fv, ⟨G', g, dr, tk', os⟩, _, .ref C, some d, rfl, J, fun b o q => ?_, ge, hoe, ⟨hc, hd⟩, hdat, h1, ?_, rfl, I1.bare, raises_own T.exC T.tyC, q1 d (I1.hok.fresh M.dbig)⟩
    · by_cases hb : b = e
      · have q' : G'.get? b = some o := q
        rw [hb, ge] at q'; cases q'
      · exact (gk b hb).symm.trans q
    · rw [upd_ne (Ne.symm M.dne)]
      exact I1.hok.fresh M.new
/-- a value is told by an error that is raised -/
def sRaiseV (x f : Str) (fa : EE) : SS := fun sd st => match fa sd st with
  | .ok d st' => .ex ⟨.glo x, some (f, d)⟩ sd st'
  | .ex c st' => .ex c sd st'
  | .stk => .stk
theorem d1_raiseV (h : XKeep M x f) (hk : 1 ≤ k) (ha : DE M k W N sc a fa) (hg : ∀ env : Env, ({ env with scope := sc.v } : Env).kindOf x = some .globalImplicit := by intro _; rfl) (h1 : (x == ("__debug__" : Str)) = false := by rfl)
    (he : ∀ env : Env, starEach (a :: []) env = (false, eval a env) :: starEach [] env := by intro _; rfl) (hpl : ∀ env : Env, (backTo pos (starEach [] env)).any (·.1) = false := by intro _; rfl) :
    D1 M k W N sc (.Raise (some (.Call (.Name x p) [a] [] pos)) none pos2) (sRaiseV x f fa) := by
  obtain ⟨C, fI, q, file, pn, msg, params, body, scope, B, newId, initId, bmB, hC, EK, TX, T, hfile, htop, hsup, _, _⟩ := h.ex
  obtain ⟨ta, pa, sa⟩ := da_cons ha da_nil he
  refine ⟨fun _ σ H => tMkK C f ta σ H fun cls d H' => W cls d σ H', fun X c => ?_, fun w sv sd st Dn rel sl h => ?_⟩
  · exact ps_raise c.calm c.tk (pmk_keep (X := X) (k := k) EK TX (by rw [c.eK]; exact T) (by rw [c.em]; exact hC) (by rw [c.eP]; exact hfile) (by rw [c.eP]; exact htop) (by rw [c.em]; exact hsup) c.rm (pa X c.toCK) (gl_of c.toCK hg) h1 (he _) (hpl _))
  · refine sa w sv sd st _ rel sl ?_
    replace h : PostS M.G w (match fa sd st with
      | .ok d st' => .ex ⟨.glo x, some (f, d)⟩ sd st'
      | .ex c st' => .ex c sd st'
      | .stk => .stk) Dn W := h
    show Post M.G (RA M.G) w ((fa sd st).bind fun x st1 => (aNil sd st1).bind fun xs st2 => .ok (x :: xs) st2) _ _
    cases q : fa sd st with
    | stk => rw [q] at h; exact h.elim
    | ex c st1 =>
      rw [q] at h
      exact fun w' cls dd s r hx => h w' sv cls dd s r (sl.step s) hx
    | ok d st1 =>
      rw [q] at h
      intro w' vs s r rs
      obtain ⟨v, vs', rfl, r1, r2⟩ := (show Reps M.G w'.I w'.ph vs [d] from rs).inv_cons'
      rw [r2.inv_nil']
      refine ⟨v, rfl, fun d0 hd => ?_⟩
      have s2 := step_addI r (o := .xd [(f, v)]) hd
      exact h (w'.addI d0 (.xd [(f, v)])) sv (.ref C) (some d0) (s.trans s2) (r.addI hd) (sl.step (s.trans s2)) ⟨hC, d0, v, rfl, upd_same, r1.step s2⟩
end
end DS
namespace DS
open PySem PySem.Spec PyProof.Rows L2
def seqS (st : Sto) : D → Option (List D)
  | .hnd i => cellAt st i
  | d => seqN d
def aStar (f : EE) (g : EA) : EA := fun sd st => (f sd st).bind fun x st1 => match seqS st1 x with
  | some xs => (g sd st1).bind fun ys st2 => .ok (xs ++ ys) st2
  | none => .stk
theorem seqS_rep {G : Md} {w : Wd} {st : Sto} {v : V} {d : D} {xs : List D} (rel : Rel G w st) (rv : Rep G w.I w.ph v d) (e : seqS st d = some xs) : ∃ a vs, v = .ref a ∧ (SqT G.K w.H a vs ∨ SqL G.K w.H a vs) ∧ Reps G w.I w.ph vs xs := by
  cases d with
  | hnd i =>
    obtain ⟨a, vs, rfl, k0, k1, k2, k3⟩ := cell_rep rel rv (show cellAt st i = some xs from e)
    exact ⟨a, vs, rfl, .inr (SqL.of k2), k3⟩
  | tup ys =>
    cases (show some ys = some xs from e)
    obtain ⟨a, vs, rfl, k1, k2⟩ := Rep.tup_inv rv
    exact ⟨a, vs, rfl, .inl (Evl.ex_t rel.sub k1), k2⟩
  | lst ys =>
    cases (show some ys = some xs from e)
    obtain ⟨a, vs, rfl, k1, k2⟩ := Rep.lst_inv rv
    exact ⟨a, vs, rfl, .inr (SqL.of (rel.sub _ _ k1)), k2⟩
  | scr ys =>
    cases (show some ys = some xs from e)
    cases rv with
    | scr k1 k2 k3 => exact ⟨_, _, rfl, .inr (Evl.ex_l rel.sub k1), ⟨k2, k3⟩⟩
  | _ => cases (show none = some xs from e)
section
variable {M : Mo} {k : Nat} {W : WX} {N : List Str} {sc : Sc} {e : Expr} {es : List Expr} {f : EE} {fs : EA} {p pos : Pos} {x : Str}
theorem da_star (ha : DE M k W N sc e f) (hr : DA M k W N sc es fs) (hs : ∀ env : Env, starEach (.Starred e p :: es) env = (true, eval e env) :: starEach es env := by intro _; rfl) : DA M k W N sc (.Starred e p :: es) (aStar f fs) := by
  obtain ⟨te, pe, se⟩ := ha
  obtain ⟨ta, pa, sa⟩ := hr
  refine ⟨StX.tStar M.K te ta, fun X c => ?_, fun w sv sd st Q rel sl h => ?_⟩
  · have z := StX.pa_star (p := p) (pe X c) (pa X c) (hs X.env)
    rw [c.eK] at z
    exact z
  · refine se w sv sd st _ rel sl ((Post.bind h).imp ?_)
    rintro v _ ⟨w1, d, st1, rfl, s1, r1, rv, h1⟩
    cases q : seqS st1 d with
    | none => rw [q] at h1; exact h1.elim
    | some xs =>
      rw [q] at h1
      obtain ⟨a, vs, rfl, k1, k2⟩ := seqS_rep r1 rv q
      refine ⟨a, vs, rfl, k1, ?_⟩
      refine sa w1 sv sd st1 _ r1 (sl.step s1) ((Post.bind (h1.step anA s1)).imp ?_)
      rintro ws _ ⟨w2, ys, st2, rfl, s2, r2, rs, h2⟩
      exact h2 w2 (vs ++ ws) s2 r2 ((k2.step s2).append rs)
abbrev FTab := List (Str × Nat × FF)
def HasT (M : Mo) (tbl : FTab) (j : Nat) : Prop := ∀ y n ff, (y, n, ff) ∈ tbl → ∃ ps, Has M y j ps [] (spD M.G n ff)
theorem metF_of {x a : Str} {params : Arguments} {body : List Stmt} {scope : Scope} {fa : Addr} {fd : FuncData} (hm : M.mg x = some (.ref fa)) (F : FunD M.K x x params body scope [] [] fa fd) (hb : L2.Binds M.K fd [a] []) : MetF M x a scope body := by
  obtain ⟨oc, od, dV, kV, doc, pm, an, cdv, ct, osl, rfl, lk, hcd, _, _⟩ := F.ex
  exact ⟨fa, oc, od, params, dV, kV, doc, pm, an, cdv, ct, osl, hm, F.kp, lk, hcd, hb⟩
end
end DS
namespace DS
open PySem PySem.Spec PyProof.Rows L2
abbrev TL := List (Addr × V × V)
def layP : Hp → TL → Hp
  | H, [] => H
  | H, p :: r => layP (upd H p.1 (.tup [p.2.1, p.2.2])) r
theorem layP_snoc : ∀ (L : TL) (H : Hp) (p : Addr × V × V), layP H (L ++ [p]) = upd (layP H L) p.1 (.tup [p.2.1, p.2.2])
  | [], _, _ => rfl
  | q :: r, H, p => layP_snoc r _ p
theorem layP_out : ∀ (L : TL) (H : Hp) (a : Addr), (∀ p ∈ L, p.1 ≠ a) → layP H L a = H a
  | [], _, _, _ => rfl
  | q :: r, H, a, h => by
    show layP (upd H q.1 _) r a = _
    rw [layP_out r _ a (fun p hp => h p (List.mem_cons_of_mem _ hp)), upd_ne (Ne.symm (h q List.mem_cons_self))]
theorem layP_in : ∀ (L : TL) (H : Hp) (p : Addr × V × V), p ∈ L → (L.map (·.1)).Nodup → layP H L p.1 = some (.tup [p.2.1, p.2.2])
  | q :: r, H, p, h, nd => by
    have nd : q.1 ∉ r.map (·.1) ∧ (r.map (·.1)).Nodup := List.nodup_cons.mp nd
    rcases List.mem_cons.mp h with rfl | h
    · show layP (upd H p.1 _) r p.1 = _
      rw [layP_out r _ _ fun u hu z => nd.1 (List.mem_map.mpr ⟨u, hu, z⟩), upd_same]
    · exact layP_in r _ p h nd.2
def refsL (L : TL) : List V := L.map fun p => V.ref p.1
def HL (H : Hp) (S : Addr) (L : TL) : Hp := upd (layP H L) S (.lst (refsL L))
structure FreshL (H : Hp) (S : Addr) (L : TL) : Prop where
  s : H S = none
  t : ∀ p ∈ L, p.1 ≠ S ∧ H p.1 = none
  nd : (L.map (·.1)).Nodup
theorem hl_ex {H : Hp} {S : Addr} {L : TL} (f : FreshL H S L) : Evl.Ex H (HL H S L) := fun a o e => by
  have h1 : a ≠ S := fun z => by rw [z, f.s] at e; cases e
  show upd (layP H L) S _ a = _
  rw [upd_ne h1, layP_out L H a fun p hp z => by
    have y := (f.t p hp).2
    rw [z, e] at y
    cases y]
  exact e
theorem upd_comm {H : Hp} {a b : Addr} {o u : HO} (h : a ≠ b) : upd (upd H a o) b u = upd (upd H b u) a o := by
  funext c
  by_cases ha : c = a
  · subst ha
    rw [upd_ne h, upd_same, upd_same]
  · by_cases hb : c = b
    · subst hb
      rw [upd_same, upd_ne ha, upd_same]
    · rw [upd_ne hb, upd_ne ha, upd_ne ha, upd_ne hb]
theorem upd_upd {H : Hp} {a : Addr} {o u : HO} : upd (upd H a o) a u = upd H a u := by
  funext c
  by_cases ha : c = a
  · subst ha; rw [upd_same, upd_same]
  · rw [upd_ne ha, upd_ne ha, upd_ne ha]
/-- the zip at z, i pairs of which are out -/
structure ZSt (h : Heap) (z TI TO i1 i2 a b S : Addr) (i : Nat) : Prop where
  ti : IsPair h TI (.ref i1) (.ref i2)
  j1 : h.IsListIter i1 a i
  j2 : h.IsListIter i2 b i
  out : (IsZip h z TI TO .none ∧ ∃ u v, IsPair h TO u v) ∨ ∃ T f oT, IsZipHeld h z TI TO T f ∧ h.get? T = some oT ∧ T ≠ S ∧ T ≠ z ∧ T ≠ i1 ∧ T ≠ i2
theorem ZSt.zlt {h : Heap} {z TI TO i1 i2 a b S : Addr} {i : Nat} (x : ZSt h z TI TO i1 i2 a b S i) : ∃ o, h.get? z = some o := by
  rcases x.out with ⟨y, _⟩ | ⟨_, _, _, y, _⟩
  · exact ⟨_, y⟩
  · exact ⟨_, y⟩
theorem ZSt.keep {h h' : Heap} {z TI TO i1 i2 a b S : Addr} {i : Nat} (x : ZSt h z TI TO i1 i2 a b S i) (hS : S ∉ [z, TI, TO, i1, i2]) (k : ∀ c o, c ≠ S → h.get? c = some o → h'.get? c = some o) : ZSt h' z TI TO i1 i2 a b S i := by
  simp only [List.mem_cons, List.not_mem_nil, or_false, not_or] at hS
  obtain ⟨s1, s2, s3, s4, s5⟩ := hS
  refine ⟨k _ _ (Ne.symm s2) x.ti, x.j1.at fun o q => k _ o (Ne.symm s4) q, x.j2.at fun o q => k _ o (Ne.symm s5) q, ?_⟩
  rcases x.out with ⟨y, u, v, w⟩ | ⟨T, f, oT, y, q, n1, n2⟩
  · exact .inl ⟨k _ _ (Ne.symm s1) y, u, v, k _ _ (Ne.symm s3) w⟩
  · exact .inr ⟨T, f, oT, k _ _ (Ne.symm s1) y, k _ _ n1 q, n1, n2⟩
section
variable {prog : Program} {w : World} {A : Around} {E : Value → Shared → Prop} {s : Shared} {z TI TO i1 i2 a b S : Addr} {i : Nat} {xs ys : Array Value} {x y : Value}
theorem zst_item {Q : Option Value → Shared → Prop} (D : ZipApart z TI TO i1 i2 a b) (st : ZSt s.heap z TI TO i1 i2 a b S i) (hS : S < s.heap.objs.size) (hl1 : s.heap.IsList a xs) (hl2 : s.heap.IsList b ys) (hx : xs[i]? = some x) (hy : ys[i]? = some y)
    (hQ : ∀ h', ZSt h' z TI TO i1 i2 a b S (i + 1) → IsPair h' s.heap.objs.size x y → h'.objs.size = s.heap.objs.size + 1 → (∀ c o, c ∉ [z, TI, TO, i1, i2] → s.heap.get? c = some o → h'.get? c = some o) → Q (some (.ref s.heap.objs.size)) { s with heap := h' }) :
    wpAny (model prog w) A (pyNext (.ref z)) Q E s := by
  obtain ⟨oz, hoz⟩ := st.zlt
  have hzl : z < s.heap.objs.size := Heap.lt_size hoz
  have h1l : i1 < s.heap.objs.size := by obtain ⟨_, e, _⟩ := st.j1; exact Heap.lt_size e
  have h2l : i2 < s.heap.objs.size := by obtain ⟨_, e, _⟩ := st.j2; exact Heap.lt_size e
  rcases st.out with ⟨hz, u, v, hTO⟩ | ⟨T, f, oT, hz, hT, n1, n2, n3, n4⟩
  · refine wpAny_pyNext_zip_item D hz st.ti hTO st.j1 st.j2 hl1 hl2 hx hy fun h' a1 a2 a3 a4 a5 a6 a7 => ?_
    refine hQ h' ⟨a7 _ _ D.TIz D.TITO D.TIi1 D.TIi2 st.ti, a3, a4, .inr ⟨_, false, _, a1, a5, Nat.ne_of_gt hS, Nat.ne_of_gt hzl, Nat.ne_of_gt h1l, Nat.ne_of_gt h2l⟩⟩ a5 a6 fun c o hc e => ?_
    simp only [List.mem_cons, List.not_mem_nil, or_false, not_or] at hc
    exact a7 c o hc.1 hc.2.2.1 hc.2.2.2.1 hc.2.2.2.2 e
  · refine wpAny_pyNext_zip_item_held D hz hT st.ti st.j1 st.j2 hl1 hl2 hx hy fun h' a1 a3 a4 a5 a6 a7 => ?_
    refine hQ h' ⟨a7 _ _ D.TIz D.TIi1 D.TIi2 st.ti, a3, a4, .inr ⟨T, true, oT, a1, a7 _ _ n2 n3 n4 hT, n1, n2, n3, n4⟩⟩ a5 a6 fun c o hc e => ?_
    simp only [List.mem_cons, List.not_mem_nil, or_false, not_or] at hc
    exact a7 c o hc.1 hc.2.2.2.1 hc.2.2.2.2 e
theorem zst_end {Q : Option Value → Shared → Prop} (hh : A.handled = none) (D : ZipApart z TI TO i1 i2 a b) (st : ZSt s.heap z TI TO i1 i2 a b S i) (hl1 : s.heap.IsList a xs) (hl2 : s.heap.IsList b ys) (hend : xs[i]? = none ∨ ys[i]? = none)
    (hQ : ∀ h', (∀ c o, c ∉ [z, TI, TO, i1, i2] → s.heap.get? c = some o → h'.get? c = some o) → Q none { s with heap := h' }) :
    wpAny (model prog w) A (pyNext (.ref z)) Q E s := by
  rcases st.out with ⟨hz, u, v, hTO⟩ | ⟨T, f, oT, hz, hT, n1, n2, n3, n4⟩
  · refine wpAny_pyNext_zip_end hh D hz st.ti hTO st.j1 st.j2 hl1 hl2 hend fun h' k => hQ h' fun c o hc e => ?_
    simp only [List.mem_cons, List.not_mem_nil, or_false, not_or] at hc
    exact k c o hc.1 hc.2.2.1 hc.2.2.2.1 hc.2.2.2.2 e
  · refine wpAny_pyNext_zip_end_held hh D hz hT st.ti st.j1 st.j2 hl1 hl2 hend fun h' k => hQ h' fun c o hc e => ?_
    simp only [List.mem_cons, List.not_mem_nil, or_false, not_or] at hc
    exact k c o hc.1 hc.2.2.2.1 hc.2.2.2.2 e
end
/-- as many pairs as the shorter list has, from the lists -/
def PairsL (xs ys : List V) (L : TL) : Prop := ∀ (j : Nat) (p : Addr × V × V), L[j]? = some p → xs[j]? = some p.2.1 ∧ ys[j]? = some p.2.2
section
variable {X : Cx} {pins : List (Addr × Obj)} {σ : L2.St} {A : Around} {R : Result → Shared → Prop} {z TI TO i1 i2 a b S : Addr} {H1 : Hp} {xs ys : List V}
theorem zl_loop (hA : A.handled = none) (D : ZipApart z TI TO i1 i2 a b) (hS : S ∉ [z, TI, TO, i1, i2]) (hx : SqL X.K H1 a xs) (hy : SqL X.K H1 b ys) (hn : min xs.length ys.length ≤ sizeLine) (res : Value) (N0 : Nat) (hN : ∀ c ∈ [z, TI, TO, i1, i2], c < N0) :
    ∀ (k i : Nat) (s : Shared) (L : TL), min xs.length ys.length - i = k → i ≤ min xs.length ys.length → L.length = i → N0 ≤ s.heap.objs.size → PairsL xs ys L → FreshL H1 S L → Inv X pins σ (HL H1 S L) s → (∀ c ∈ [z, TI, TO, i1, i2], FpOk X pins (HL H1 S L) c) → ZSt s.heap z TI TO i1 i2 a b S i →
      (∀ s' L', L'.length = min xs.length ys.length → PairsL xs ys L' → FreshL H1 S L' → Inv X pins σ (HL H1 S L') s' → R (.ok (.ret res)) s') →
      codeAny (model X.prog X.w) A (.builtin "list.extend.loop" ⟨[.ref S, .ref z, res], []⟩) R s := by
  intro k
  induction k with
  | zero =>
    intro i s L hk hi hl hN0 hp fr I hf st hR
    have ex := hl_ex fr
    obtain ⟨its, rv, p1, _⟩ := I.list (Evl.ex_l ex hx)
    obtain ⟨its2, rv2, p2, _⟩ := I.list (Evl.ex_l ex hy)
    refine codeAny_builtin F.entry_extend_loop ?_
    rw [Around.under_plainId F.plain_extend_loop _]
    show wpAny _ A.in1 (pyNext (.ref z) >>= _) _ _ s
    refine wpAny_bind (zst_end hA D st p1.isList p2.isList ?_ fun h' kp => wpAny_pure ?_)
    · have e1 := rv.length
      have e2 := rv2.length
      simp only [List.getElem?_toArray, List.getElem?_eq_none_iff]
      omega
    · exact hR _ L (by omega) hp fr (I.turnedL (t' := s.toks) (ch := [z, TI, TO, i1, i2]) kp hf)
  | succ k ih =>
    intro i s L hk hi hl hN0 hp fr I hf st hR
    have ex := hl_ex fr
    obtain ⟨its, rv, p1, _⟩ := I.list (Evl.ex_l ex hx)
    obtain ⟨its2, rv2, p2, _⟩ := I.list (Evl.ex_l ex hy)
    have h1 : i < xs.length := by omega
    have h2 : i < ys.length := by omega
    obtain ⟨u, hu, ru⟩ := rv.get (List.getElem?_eq_getElem h1)
    obtain ⟨u2, hu2, ru2⟩ := rv2.get (List.getElem?_eq_getElem h2)
    have hSl : HL H1 S L S = some (.lst (refsL L)) := upd_same
    obtain ⟨hz0, itS, nS, rS, eS⟩ := I.hok S _ hSl
    have hSlt : S < s.heap.objs.size := Heap.lt_size eS
    refine codeAny_builtin F.entry_extend_loop ?_
    rw [Around.under_plainId F.plain_extend_loop _]
    show wpAny _ A.in1 (pyNext (.ref z) >>= _) _ _ s
    refine wpAny_bind (zst_item D st hSlt p1.isList p2.isList (x := u) (y := u2) (by simpa using hu) (by simpa using hu2) fun h' st' hT hsz kp => ?_)
    have hS' : h'.get? S = some { cls := .type "list", data := .seq itS.toArray nS } := kp S _ hS eS
    show wpAny _ A.in1 (updateSeq S (·.push (.ref s.heap.objs.size)) >>= _) _ _ _
    have newT : ObjOk X.prog X.w (upd (HL H1 S L) s.heap.objs.size (.tup [xs[i], ys[i]])) h' s.heap.objs.size (.tup [xs[i], ys[i]]) := ⟨by show 2 ≤ sizeLine; rw [sizeLine_eq]; decide, [u, u2], .cons ru (.cons ru2 .nil), ⟨_, hT, rfl, _, rfl⟩⟩
    have I1 : Inv X pins σ (upd (HL H1 S L) s.heap.objs.size (.tup [xs[i], ys[i]])) { s with heap := h' } := I.turnedNew (t' := s.toks) (ch := [z, TI, TO, i1, i2]) kp hf (Nat.le_refl _) newT
    have fT := I.hok.fresh (Nat.le_refl s.heap.objs.size)
    have TS : s.heap.objs.size ≠ S := Nat.ne_of_gt hSlt
    have eH : upd (upd (HL H1 S L) s.heap.objs.size (.tup [xs[i], ys[i]])) S (.lst (refsL (L ++ [(s.heap.objs.size, xs[i], ys[i])]))) = HL H1 S (L ++ [(s.heap.objs.size, xs[i], ys[i])]) := by
      unfold HL
      rw [layP_snoc, upd_comm (Ne.symm TS), upd_upd]
    have lS := rS.length
    have lR : (refsL L).length = L.length := by unfold refsL; rw [List.length_map]
    have hlim : L.length < sizeLine := by omega
    refine wpAny_bind (wpAny_updateSeq hS' rfl (wpAny_pure ⟨plainId_quiet F.plain_extend_loop _, ?_⟩) (by rw [List.size_toArray]; omega) (by show (itS.toArray.push _).size ≤ _; rw [Array.size_push, List.size_toArray]; omega))
    have keep2 : ∀ c o, c ≠ S → h'.get? c = some o → (h'.update S (Obj.mapSeq (·.push (.ref s.heap.objs.size)))).get? c = some o := fun c o hc e => (Heap.get?_update_other _ _ (Ne.symm hc)).trans e
    have newS : ObjOk X.prog X.w (upd (upd (HL H1 S L) s.heap.objs.size (.tup [xs[i], ys[i]])) S (.lst (refsL (L ++ [(s.heap.objs.size, xs[i], ys[i])])))) (h'.update S (Obj.mapSeq (·.push (.ref s.heap.objs.size)))) S (.lst (refsL (L ++ [(s.heap.objs.size, xs[i], ys[i])]))) := by
      obtain ⟨n', en⟩ : ∃ n', Obj.mapSeq (·.push (.ref s.heap.objs.size)) ({ cls := .type "list", data := .seq itS.toArray nS } : Obj) = ({ cls := .type "list", data := .seq (itS.toArray.push (.ref s.heap.objs.size)) n' } : Obj) := ⟨_, rfl⟩
      refine ⟨by unfold refsL; rw [List.length_map, List.length_append]; show L.length + 1 ≤ _; omega, itS ++ [.ref s.heap.objs.size], n', ?_, ((Heap.get?_update_self _ hS' rfl).trans (congrArg some en)).trans ?_⟩
      · unfold refsL
        rw [List.map_append]
        exact rS.append (.cons rfl .nil)
      · rw [List.push_toArray]
    have I2 := I1.write (t' := s.toks) (x := S) (e := S) (o := .lst (refsL (L ++ [(s.heap.objs.size, xs[i], ys[i])]))) (by
      rw [upd_ne (Ne.symm TS), hSl]
      trivial) (.inl rfl) keep2 ⟨_, Heap.get?_update_self _ hS' rfl⟩ newS
    rw [eH] at I2
    have fr2 : FreshL H1 S (L ++ [(s.heap.objs.size, xs[i], ys[i])]) := by
      have nT : H1 s.heap.objs.size = none := by
        cases q : H1 s.heap.objs.size with
        | none => rfl
        | some o =>
          have y := ex _ _ q
          rw [fT] at y
          cases y
      refine ⟨fr.s, fun p hp => ?_, ?_⟩
      · rcases List.mem_append.mp hp with hp | hp
        · exact fr.t p hp
        · rw [List.mem_singleton.mp hp]
          exact ⟨TS, nT⟩
      · rw [List.map_append, List.nodup_append]
        refine ⟨fr.nd, by simp, fun c hc d hd => ?_⟩
        obtain ⟨p, hp, rfl⟩ := List.mem_map.mp hc
        simp at hd
        subst hd
        intro z
        have y : HL H1 S L p.1 = none := by rw [z]; exact fT
        have y2 : upd (layP H1 L) S _ p.1 = none := y
        rw [upd_ne (fr.t p hp).1, layP_in L H1 p hp fr.nd] at y2
        cases y2
    have sz2 : (h'.update S (Obj.mapSeq (·.push (.ref s.heap.objs.size)))).objs.size = h'.objs.size := (Heap.SameBut.update ..).1
    refine ih (i + 1) _ _ (by omega) (by omega) (by rw [List.length_append, hl]; rfl) (by show N0 ≤ (h'.update S _).objs.size; rw [sz2, hsz]; omega) (fun j p hj => ?_) fr2 I2 (fun c hc => ?_) (st'.keep hS keep2) hR
    · rw [List.getElem?_append] at hj
      split at hj
      · exact hp j p hj
      · have e0 : j - L.length = 0 := by
          cases q : j - L.length with
          | zero => rfl
          | succ m => rw [q] at hj; cases hj
        rw [e0] at hj
        cases hj
        have e1 : j = i := by omega
        subst e1
        exact ⟨List.getElem?_eq_getElem h1, List.getElem?_eq_getElem h2⟩
    · have c1 : c ≠ S := fun q => hS (q ▸ hc)
      have c2 : c ≠ s.heap.objs.size := Nat.ne_of_lt (Nat.lt_of_lt_of_le (hN c hc) hN0)
      refine ⟨?_, (hf c hc).2⟩
      rw [← eH, upd_ne c1, upd_ne c2]
      exact (hf c hc).1
theorem zip_no_len : typeLookup (.type "zip") "__len__" = pure none := by rw [typeLookup_type, builtinLookup_eq_fast]; kernel_rfl
theorem zip_no_hint : typeLookup (.type "zip") "__length_hint__" = pure none := by rw [typeLookup_type, builtinLookup_eq_fast]; kernel_rfl
/-- list(z), z a fresh zip of two lists -/
theorem call_lzip {Q : VK} {E : Value → Shared → Prop} {s : Shared} (hA : X.A.handled = none) (D : ZipApart z TI TO i1 i2 a b) (hx : SqL X.K H1 a xs) (hy : SqL X.K H1 b ys) (hn : min xs.length ys.length ≤ sizeLine)
    (I : Inv X pins σ H1 s) (hf : ∀ c ∈ [z, TI, TO, i1, i2], FpOk X pins H1 c) (hz : IsZip s.heap z TI TO .none) (hTI : IsPair s.heap TI (.ref i1) (.ref i2)) {u v : Value} (hTO : IsPair s.heap TO u v) (h1 : s.heap.IsListIter i1 a 0) (h2 : s.heap.IsListIter i2 b 0)
    (hN : ∀ c ∈ [z, TI, TO, i1, i2], c < s.heap.objs.size)
    (hQ : ∀ S L, L.length = min xs.length ys.length → PairsL xs ys L → FreshL H1 S L → Q (.ref S) (HL H1 S L)) :
    wpAny (model X.prog X.w) X.A (call (.type "list") [.ref z]) (EP X pins σ Q) E s := by
  have hSf : s.heap.objs.size ∉ [z, TI, TO, i1, i2] := fun hm => Nat.lt_irrefl _ (hN _ hm)
  refine callType_codes (Q₁ := fun obj s₁ => obj = .ref s.heap.objs.size ∧ s₁ = { s with heap := s.heap.push { cls := .type "list", data := .seq #[] } }) F.called_list (F.typeCall_list_1 _) F.entry_list_init
    (code_list_new _ ⟨rfl, rfl⟩) fun obj s₁ h₁ => ?_
  obtain ⟨rfl, rfl⟩ := h₁
  have hS : (s.heap.push { cls := .type "list", data := .seq #[] }).get? s.heap.objs.size = some { cls := .type "list", data := .seq #[] } := Heap.get?_push_size _ rfl
  have kp : ∀ c o, s.heap.get? c = some o → (s.heap.push { cls := .type "list", data := .seq #[] }).get? c = some o := fun c o e => Heap.get?_push_of_some _ e
  refine ⟨⟨_, hS, rfl⟩, F.args_list_init_2 _ _, ?_⟩
  show wpAny _ X.A.in1.in1 (do let old ← Builtin.List.listItems (.ref s.heap.objs.size); Builtin.List.listUpdate (.ref s.heap.objs.size) (fun _ => #[]); letGo old.toList.reverse; Builtin.List.listExtendWith (.ref s.heap.objs.size) (.ref z) .none) _ _ _
  refine wpAny_bind ?_
  unfold Builtin.List.listItems
  refine wpAny_bind (wpAny_seqItems hS rfl (wpAny_pure ?_))
  show wpAny _ _ (updateSeq s.heap.objs.size (fun _ => #[]) >>= fun _ => letGo (#[] : Array Value).toList.reverse >>= fun _ => Builtin.List.listExtendWith (.ref s.heap.objs.size) (.ref z) .none) _ _ _
  refine wpAny_bind (wpAny_updateSeq hS rfl ?_)
  have hS₂ := Heap.get?_update_self (Obj.mapSeq (fun _ => (#[] : Array Value))) hS rfl
  have k2 : ∀ c o, s.heap.get? c = some o → ((s.heap.push { cls := .type "list", data := .seq #[] }).update s.heap.objs.size (Obj.mapSeq (fun _ => (#[] : Array Value)))).get? c = some o := fun c o e => (Heap.get?_update_other _ _ (Nat.ne_of_gt (Heap.lt_size e))).trans (kp c o e)
  refine wpAny_bind (wpAny_letGo ?_)
  have hSI : s.heap.objs.size ≠ z := fun e => hSf (e ▸ List.mem_cons_self)
  have hTz : Shared.TypeIs { s with heap := (s.heap.push { cls := .type "list", data := .seq #[] }).update s.heap.objs.size (Obj.mapSeq (fun _ => (#[] : Array Value))) } (.ref z) "zip" := ⟨_, k2 _ _ hz, rfl⟩
  unfold Builtin.List.listExtendWith
  refine wpAny_bind (wpAny_typeOf hTz ?_)
  have e1 : Builtin.List.listSameRef (.ref s.heap.objs.size) (.ref z) = false := by simp [Builtin.List.listSameRef, hSI]
  have e2 : (Value.type "zip" == Value.type "list") = false := by decide
  have e3 : (Value.type "zip" == Value.type "tuple") = false := by decide
  simp only [e1, e2, e3, Bool.or_false, Bool.false_eq_true, if_false]
  refine wpAny_bind (wpAny_pyIter_zip (k2 _ _ hz) ?_)
  refine wpAny_bind (wpAny_holding ?_)
  unfold Builtin.List.listLengthHint
  refine wpAny_bind (wpAny_specialOf hTz zip_no_len ?_)
  show wpAny _ _ (specialOf (Value.ref z) (Str.ofString "__length_hint__") >>= _) _ _ _
  refine wpAny_bind (wpAny_specialOf hTz zip_no_hint ?_)
  refine wpAny_pure ?_
  show wpAny _ _ (rule "list.extend.makes-room" >>= fun _ => Builtin.List.listTouch (.ref s.heap.objs.size) >>= fun _ =>
    again (.builtin "list.extend.loop" ⟨[.ref s.heap.objs.size, .ref z, .none], []⟩)) _ _ _
  refine wpAny_bind (wpAny_rule ?_)
  refine wpAny_bind ?_
  show wpAny _ _ (updateSeq s.heap.objs.size (·.push .none) >>= fun _ => updateSeq s.heap.objs.size (·.pop)) _ _ _
  refine wpAny_bind (wpAny_updateSeq hS₂ rfl ?_)
  have hS₃ := Heap.get?_update_self (Obj.mapSeq (·.push Value.none)) hS₂ rfl
  refine wpAny_updateSeq (hz := by seq_fits) hS₃ rfl ?_
  have hS₄ := Heap.get?_update_self (Obj.mapSeq (·.pop)) hS₃ rfl
  have k4 : ∀ c o, s.heap.get? c = some o → ((((s.heap.push { cls := .type "list", data := .seq #[] }).update s.heap.objs.size (Obj.mapSeq (fun _ => (#[] : Array Value)))).update s.heap.objs.size (Obj.mapSeq (·.push Value.none))).update s.heap.objs.size (Obj.mapSeq (·.pop))).get? c = some o := fun c o e =>
    (Heap.get?_update_other _ _ (Nat.ne_of_gt (Heap.lt_size e))).trans ((Heap.get?_update_other _ _ (Nat.ne_of_gt (Heap.lt_size e))).trans (k2 c o e))
  have fS : H1 s.heap.objs.size = none := I.hok.fresh (Nat.le_refl _)
  have newS : ObjOk X.prog X.w (upd H1 s.heap.objs.size (.lst [])) ((((s.heap.push { cls := .type "list", data := .seq #[] }).update s.heap.objs.size (Obj.mapSeq (fun _ => (#[] : Array Value)))).update s.heap.objs.size (Obj.mapSeq (·.push Value.none))).update s.heap.objs.size (Obj.mapSeq (·.pop))) s.heap.objs.size (.lst []) :=
    ⟨Nat.zero_le _, [], _, .nil, hS₄⟩
  have I4 := I.laid (t' := s.toks) k4 (Nat.le_refl _) newS
  have sz4 : s.heap.objs.size ≤ ((((s.heap.push { cls := .type "list", data := .seq #[] }).update s.heap.objs.size (Obj.mapSeq (fun _ => (#[] : Array Value)))).update s.heap.objs.size (Obj.mapSeq (·.push Value.none))).update s.heap.objs.size (Obj.mapSeq (·.pop))).objs.size := Nat.le_of_lt (Heap.lt_size hS₄)
  refine wpAny_pure ⟨plainId_quiet F.plain_extend_loop _, zl_loop (H1 := H1) (A := X.A.in1) (S := s.heap.objs.size) (show X.A.in1.handled = none from hA) D hSf hx hy hn .none s.heap.objs.size hN _ 0 _ [] rfl (Nat.zero_le _) rfl sz4 (fun j p hj => by simp at hj) ⟨fS, fun p hp => (nomatch hp), List.nodup_nil⟩ I4 (fun c hc => ⟨?_, (hf c hc).2⟩) ⟨k4 _ _ hTI, h1.at fun o q => k4 _ o q, h2.at fun o q => k4 _ o q, .inl ⟨k4 _ _ hz, u, v, k4 _ _ hTO⟩⟩ fun s' L' hl hp fr I' => ?_⟩
  · show upd H1 s.heap.objs.size _ c = none
    rw [upd_ne (fun q : c = s.heap.objs.size => hSf (q ▸ hc))]
    exact (hf c hc).1
  · exact ⟨rfl, .ref s.heap.objs.size, _, I', rfl, hQ _ L' hl hp fr⟩
/-- list(zip(e, e2)) -/
def tLzip (K : PySem.W.Frag) (ta : TA) : TE := fun σ H Q => ta σ H fun vs H1 => ∃ a b xs ys, vs = [.ref a, .ref b] ∧ SqL K H1 a xs ∧ SqL K H1 b ys ∧ min xs.length ys.length ≤ sizeLine ∧
  ∀ S L, L.length = min xs.length ys.length → PairsL xs ys L → FreshL H1 S L → Q (.ref S) (HL H1 S L)
theorem pe_lzip {e e2 : Expr} {ta : TA} {p p2 pos pos2 : Pos} (hc : X.calm = true) (hg : Gl X "zip") (hm : X.mg "zip" = none) (hg2 : Gl X "list") (hm2 : X.mg "list" = none) (ha : PA X [e, e2] ta)
    (hs : starEach [e, e2] X.env = (false, eval e X.env) :: starEach [e2] X.env) (hpl : (backTo pos2 (starEach [e2] X.env)).any (·.1) = false)
    (hs1 : starEach [.Call (.Name "zip" p2) [e, e2] [] pos2] X.env = (false, eval (.Call (.Name "zip" p2) [e, e2] [] pos2) X.env) :: starEach [] X.env) :
    PE X (.Call (.Name "list" p) [.Call (.Name "zip" p2) [e, e2] [] pos2] [] pos) (tLzip X.K ta) := by
  refine ⟨fun pins s σ H Q I h => ?_⟩
  refine Call_ (ld_blt I hg2 hm2 (show bootBuiltins "list" = some (.type "list") from by decide +kernel) (PyProof.Rows.callWith_type1 ?_ hs1 (by rfl)))
  rw [hs1]
  show wpAny _ _ (spliced ((false, eval (.Call (.Name "zip" p2) [e, e2] [] pos2) X.env) :: backTo pos (starEach [] X.env))) _ _ s
  refine Calls.spliced_cons ?_
  refine Call_ (ld_blt I hg hm PyProof.Rows.boot_zip (PyProof.Rows.callWith_type1 (thn (ha.run pos2 pins s σ H _ I h) fun us s1 ⟨vs, H1, I1, r1, q1⟩ => ?_) hs hpl))
  obtain ⟨a, b, xs, ys, rfl, hqx, hqy, hn, hQ⟩ := q1
  cases r1 with
  | cons r rr =>
    cases rr with
    | cons r' rr =>
      cases rr
      cases r
      cases r'
      obtain ⟨its, rv, p1, _⟩ := I1.list hqx
      obtain ⟨its2, rv2, p2, _⟩ := I1.list hqy
      refine call_zip_2 p1.isList p2.isList fun h' hz hTI hTO h1 h2 hsz hk => ?_
      have I2 : Inv X pins σ H1 { s1 with heap := h' } := I1.kept (t' := s1.toks) hk
      have mem5 : ∀ c, c ∈ [s1.heap.objs.size + 4, s1.heap.objs.size + 2, s1.heap.objs.size + 3, s1.heap.objs.size, s1.heap.objs.size + 1] → s1.heap.objs.size ≤ c ∧ c < s1.heap.objs.size + 5 := fun c hcm => by
        simp at hcm
        omega
      refine Calls.spliced_nil ?_
      refine call_lzip (I.ok.hd hc) (PySem.W.ktu_apart s1.heap.objs.size a b p1.lt p2.lt) hqx hqy hn I2 (fun c hcm => I1.fpOk (mem5 c hcm).1 (I1.hok.fresh (mem5 c hcm).1)) hz hTI hTO h1 h2 (fun c hcm => ?_) hQ
      show c < h'.objs.size
      rw [hsz]
      exact (mem5 c hcm).2
end
def lstS (st : Sto) : D → Option (List D)
  | .hnd i => cellAt st i
  | .lst xs => some xs
  | .scr xs => some xs
  | _ => none
theorem lstS_rep {G : Md} {w : Wd} {st : Sto} {v : V} {d : D} {xs : List D} (rel : Rel G w st) (rv : Rep G w.I w.ph v d) (e : lstS st d = some xs) : ∃ a vs, v = .ref a ∧ SqL G.K w.H a vs ∧ Reps G w.I w.ph vs xs := by
  cases d with
  | hnd i =>
    obtain ⟨a, vs, rfl, k0, k1, k2, k3⟩ := cell_rep rel rv (show cellAt st i = some xs from e)
    exact ⟨a, vs, rfl, SqL.of k2, k3⟩
  | lst ys =>
    cases (show some ys = some xs from e)
    obtain ⟨a, vs, rfl, k1, k2⟩ := Rep.lst_inv rv
    exact ⟨a, vs, rfl, SqL.of (rel.sub _ _ k1), k2⟩
  | scr ys =>
    cases (show some ys = some xs from e)
    cases rv with
    | scr k1 k2 k3 => exact ⟨_, _, rfl, Evl.ex_l rel.sub k1, ⟨k2, k3⟩⟩
  | _ => cases (show none = some xs from e)
def pairD (p : D × D) : D := .tup [p.1, p.2]
def fZipL (fa : EA) : EA := fun sd st => (fa sd st).bind fun ds st1 => match ds with
  | [x, y] => (match lstS st1 x, lstS st1 y with
    | some xs, some ys => if min xs.length ys.length ≤ lineN then .ok ((xs.zip ys).map pairD) st1 else .stk
    | _, _ => .stk)
  | _ => .stk
def addL : Wd → TL → Wd
  | w, [] => w
  | w, p :: r => addL (w.addI p.1 (.tup [p.2.1, p.2.2])) r
theorem addL_h : ∀ (L : TL) (w : Wd), (addL w L).H = layP w.H L ∧ (addL w L).I = layP w.I L ∧ (addL w L).ph = w.ph
  | [], _ => ⟨rfl, rfl, rfl⟩
  | p :: r, w => addL_h r _
theorem addL_ok {G : Md} {st : Sto} : ∀ (L : TL) (w : Wd), (∀ p ∈ L, w.H p.1 = none) → (L.map (·.1)).Nodup → Rel G w st → Step w (addL w L) ∧ Rel G (addL w L) st
  | [], w, _, _, r => ⟨Step.refl w, r⟩
  | p :: L, w, h, nd, r => by
    have nd : p.1 ∉ L.map (·.1) ∧ (L.map (·.1)).Nodup := List.nodup_cons.mp nd
    have hp := h p List.mem_cons_self
    have s1 := step_addI r (o := .tup [p.2.1, p.2.2]) hp
    have r1 := r.addI (o := .tup [p.2.1, p.2.2]) hp
    obtain ⟨s2, r2⟩ := addL_ok L (w.addI p.1 (.tup [p.2.1, p.2.2])) (fun q hq => by
      show upd w.H p.1 _ q.1 = none
      rw [upd_ne (fun z => nd.1 (List.mem_map.mpr ⟨q, hq, z⟩))]
      exact h q (List.mem_cons_of_mem _ hq)) nd.2 r1
    exact ⟨s1.trans s2, r2⟩
theorem sf_lzip {G : Md} {E : L2.St → XK} {ta : TA} {fa : EA} (ha : SA G E ta fa) : SF G E (tLzip G.K ta) (fZipL fa) := by
  intro w sv sd st Q rel sl h
  refine ha w sv sd st _ rel sl ((Post.bind h).imp ?_)
  rintro vs _ ⟨w1, ds, st1, rfl, s1, r1, rs, h1⟩
  match ds, rs, h1 with
  | [], rs, h1 => exact h1.elim
  | [_], rs, h1 => exact h1.elim
  | _ :: _ :: _ :: _, rs, h1 => exact h1.elim
  | [x, y], rs, h1 =>
    obtain ⟨v, vs', rfl, rv, rs'⟩ := (show Reps G w1.I w1.ph vs [x, y] from rs).inv_cons'
    obtain ⟨u, vs2, rfl, ru, rs2⟩ := rs'.inv_cons'
    rw [rs2.inv_nil']
    replace h1 : Post G (RF G) w (match lstS st1 x, lstS st1 y with
      | some xs, some ys => if min xs.length ys.length ≤ lineN then Res.ok ((xs.zip ys).map pairD) st1 else .stk
      | _, _ => .stk) Q (E sv) := h1
    cases q1 : lstS st1 x with
    | none => rw [q1] at h1; exact h1.elim
    | some xs =>
      cases q2 : lstS st1 y with
      | none => rw [q1, q2] at h1; exact h1.elim
      | some ys =>
        rw [q1, q2] at h1
        replace h1 : Post G (RF G) w (if min xs.length ys.length ≤ lineN then Res.ok ((xs.zip ys).map pairD) st1 else .stk) Q (E sv) := h1
        by_cases hl : min xs.length ys.length ≤ lineN
        · rw [if_pos hl] at h1
          obtain ⟨a, as, rfl, ka, ra⟩ := lstS_rep r1 rv q1
          obtain ⟨b, bs, rfl, kb, rb⟩ := lstS_rep r1 ru q2
          refine ⟨a, b, as, bs, rfl, ka, kb, line_ok (by rw [ra.1, rb.1]; exact hl), fun S L hL hp fr => ?_⟩
          obtain ⟨s2, r2⟩ := addL_ok L w1 (fun p hp => (fr.t p hp).2) fr.nd r1
          obtain ⟨eH, eI, eP⟩ := addL_h L w1
          have hS : (addL w1 L).H S = none := by rw [eH, layP_out L _ _ fun p hp => (fr.t p hp).1]; exact fr.s
          have rl : Reps G (addL w1 L).I (addL w1 L).ph (refsL L) ((xs.zip ys).map pairD) := by
            refine ⟨by unfold refsL; rw [List.length_map, List.length_map, List.length_zip, hL, ra.1, rb.1], fun j v d e1 e2 => ?_⟩
            unfold refsL at e1
            rw [List.getElem?_map] at e1 e2
            cases f1 : L[j]? with
            | none => rw [f1] at e1; cases e1
            | some p =>
              cases f2 : (xs.zip ys)[j]? with
              | none => rw [f2] at e2; cases e2
              | some q =>
                rw [f1] at e1
                rw [f2] at e2
                cases e1
                cases e2
                obtain ⟨g1, g2⟩ := hp j p f1
                obtain ⟨k1, k2⟩ := List.getElem?_zip_eq_some.mp f2
                have z1 := (ra.2 j _ _ g1 k1).step s2
                have z2 := (rb.2 j _ _ g2 k2).step s2
                refine Rep.tup' (vs := [p.2.1, p.2.2]) (SqT.of ?_) (Reps.cons z1 (Reps.cons z2 Reps.nil))
                rw [eI]
                exact layP_in L _ p (List.mem_of_getElem? f1) fr.nd
          have k := fresh_lst r2 hS rl
          have key := h1 ⟨(addL w1 L).I, (addL w1 L).ph, upd (addL w1 L).H S (.lst (refsL L))⟩ (.ref S) ((s1.trans s2).trans k.1) k.2
            ⟨S, refsL L, rfl, s1.live S (.inl (show w1.H S = none from fr.s)), r2.notIn hS, r2.noI hS, upd_same, rl⟩
          have e : HL w1.H S L = upd (addL w1 L).H S (.lst (refsL L)) := by rw [eH]; rfl
          rw [e]
          exact key
        · rw [if_neg hl] at h1
          exact h1.elim
section
variable {M : Mo} {k : Nat} {W : WX} {N : List Str} {sc : Sc} {a b : Expr} {fs : EA} {p p2 pos pos2 : Pos}
theorem df_lzip (hm : M.mg "zip" = none) (hm2 : M.mg "list" = none) (h : DA M k W N sc [a, b] fs) (hg : ∀ env : Env, ({ env with scope := sc.v } : Env).kindOf "zip" = some .globalImplicit := by intro _; rfl) (hg2 : ∀ env : Env, ({ env with scope := sc.v } : Env).kindOf "list" = some .globalImplicit := by intro _; rfl)
    (hs : ∀ env : Env, starEach [a, b] env = (false, eval a env) :: starEach [b] env := by intro _; rfl) (hpl : ∀ env : Env, (backTo pos2 (starEach [b] env)).any (·.1) = false := by intro _; rfl)
    (hs1 : ∀ env : Env, starEach [.Call (.Name "zip" p2) [a, b] [] pos2] env = (false, eval (.Call (.Name "zip" p2) [a, b] [] pos2) env) :: starEach [] env := by intro _; rfl) :
    DF M k W N sc (.Call (.Name "list" p) [.Call (.Name "zip" p2) [a, b] [] pos2] [] pos) (fZipL fs) := by
  obtain ⟨ta, pa, sa⟩ := h
  refine ⟨tLzip M.K ta, fun X c => ?_, sf_lzip sa⟩
  have z := pe_lzip (p := p) (p2 := p2) (pos := pos) (pos2 := pos2) c.calm (gl_of c hg) (by rw [c.em]; exact hm) (gl_of c hg2) (by rw [c.em]; exact hm2) (pa X c) (hs X.env) (hpl X.env) (hs1 X.env)
  rw [c.eK] at z
  exact z
end
end DS
namespace DS
open PySem PySem.Spec PyProof.Rows L2
theorem pe_or {X : Cx} {e : Expr} {t1 t2 : TE} (h1 : PE X e t1) (h2 : PE X e t2) : PE X e (fun σ H Q => t1 σ H Q ∨ t2 σ H Q) := ⟨fun pins s σ H Q I h => h.elim (h1.run pins s σ H Q I) (h2.run pins s σ H Q I)⟩
section
variable {M : Mo} {k : Nat} {W : WX} {N : List Str} {sc : Sc} {b : List Stmt}
theorem db_never : DB M k W N sc b sStk := ⟨fun _ _ _ => False, fun X c => ⟨fun pins s σ H D I h => h.elim⟩, fun w sv sd st Dn rel sl h => h.elim⟩
end
end DS
namespace DQ
open PySem PySem.Spec PyProof.Rows L2
section
variable {prog : Program} {w : World} {A : Around} {E : Value → Shared → Prop} {s : Shared}
theorem tuple_ne0 {R : Result → Shared → Prop} (l b : Addr) (items : Array Value) (n n2 : Nat) (o1 o2 : Obj) (h1 : s.heap.get? l = some o1) (d1 : o1.data = .seq items n) (h2 : s.heap.get? b = some o2) (t2 : o2.cls = .type "tuple") (d2 : o2.data = .seq #[] n2)
    (done : R (.ok (.ret (.bool (items.size != 0)))) s) : wpAny (model prog w) A.in1 (Builtin.«tuple.__ne__» ⟨[.ref l, .ref b], []⟩) (GQ.FinOf prog w A R) (fun e s' => R (.error e) s') s := by
  refine wpAny_bind (m := slotArgs "__ne__" 1 ⟨[.ref l, .ref b], []⟩) (wpAny_pure ?_)
  refine wpAny_bind (wpAny_isInstance (T := "tuple") (b := true) ⟨o2, h2, t2⟩ (by first | rfl | kernel_rfl) ?_)
  refine PySem.W.KFB.if_not rfl ?_
  refine wpAny_bind (wpAny_tupleItemsOf h1 d1 (wpAny_bind (wpAny_tupleItemsOf h2 d2 ?_)))
  have z : items.toList.zip (#[] : Array Value).toList = [] := by simp
  rw [z]
  refine wpAny_bind (wpAny_pure ?_)
  show wpAny _ _ (ret (Builtin.Tuple.tupleCompareSizes .NotEq items.size (#[] : Array Value).size)) _ _ _
  exact wpAny_pure done
theorem rc_tupN0 {l b : Addr} {items : Array Value} {Q : Value → Shared → Prop} (hu : A.units < cLine) (h1 : Heap.IsTuple s.heap l items) (h2 : Heap.IsTuple s.heap b #[]) (done : Q (.bool (items.size != 0)) s) :
    wpAny (model prog w) A (richCompare .NotEq (.ref l) (.ref b)) Q E s := by
  obtain ⟨o1, g1, t1, n, d1⟩ := h1
  obtain ⟨o2, g2, t2, n2, d2⟩ := h2
  refine wpAny_richCompare_same_room ⟨o1, g1, t1⟩ ⟨o2, g2, t2⟩ PySem.F.slot_tuple_ne ?_ hu
  refine GQ.call_here PySem.F.slot_tuple_ne ⟨o1, g1, t1⟩ PySem.F.entry_tuple_ne (PySem.F.args_tuple_ne_2 _ _) ?_
  exact tuple_ne0 l b items n n2 o1 o2 g1 d1 g2 t2 d2 ⟨(by intro z; cases z), done⟩
end
end DQ
namespace DS
open PySem PySem.Spec PyProof.Rows L2
section
variable {M : Mo}
def rNe0 (K : PySem.W.Frag) : R2 := fun x y H Q => ∃ a b xs, x = .ref a ∧ y = .ref b ∧ SqT K H a xs ∧ SqT K H b [] ∧ Q (.bl (!xs.isEmpty)) H
theorem op_ne0 {X : Cx} (hu : X.A.units + 64 < cLine) : OpR X (compareOp .NotEq) (rNe0 X.K) := by
  intro pins s σ H x y v u Q I rx ry h
  obtain ⟨a, b, xs, rfl, rfl, h1, h2, q⟩ := h
  cases rx
  cases ry
  obtain ⟨its, v1, t1, _⟩ := I.tuple h1
  obtain ⟨its2, v2, t2, _⟩ := I.tuple h2
  cases v2
  show wpAny _ _ (richCompare .NotEq (.ref a) (.ref b)) _ _ _
  refine DQ.rc_tupN0 (by omega) t1 t2 ⟨.bl (!xs.isEmpty), H, I, ?_, q⟩
  show Value.bool _ = _
  congr 1
  have e := v1.length
  cases xs with
  | nil => simp at e; simp [← e]
  | cons x r => cases its with
    | nil => simp at e
    | cons y r => simp
def ne0L : Sto → D → D → Option D := fun _ x y => match x, y with
  | .tup xs, .tup [] => some (.bl (!xs.isEmpty))
  | _, _ => none
theorem d_ne0 : OpD M.G (rNe0 M.K) ne0L := by
  intro w st x y dx dy d Q rel rx ry e q
  unfold ne0L at e
  split at e
  · cases e
    rename_i xs
    obtain ⟨a, vs, rfl, h1, h2⟩ := rx.tup_inv
    obtain ⟨b, ws, rfl, k1, k2⟩ := ry.tup_inv
    have k3 := k2.inv_nil'
    subst k3
    refine ⟨a, b, vs, rfl, rfl, Evl.ex_t rel.sub h1, Evl.ex_t rel.sub k1, ?_⟩
    have e : vs.isEmpty = xs.isEmpty := by
      have l := h2.1
      cases vs <;> cases xs <;> first | rfl | (simp at l)
    rw [e]
    exact q w _ (Step.refl w) rel (.bl _)
  · cases e
def rNe0M (K : PySem.W.Frag) : R2 := fun x y H Q => ∃ a b xs, x = .ref a ∧ y = .ref b ∧ SqL K H a xs ∧ SqL K H b [] ∧ Q (.bl (!xs.isEmpty)) H
theorem op_ne0M {X : Cx} (hu : X.A.units + 64 < cLine) : OpR X (compareOp .NotEq) (rNe0M X.K) := by
  intro pins s σ H x y v u Q I rx ry h
  obtain ⟨a, b, xs, rfl, rfl, h1, h2, q⟩ := h
  cases rx
  cases ry
  obtain ⟨its, v1, t1, _⟩ := I.list h1
  obtain ⟨its2, v2, t2, _⟩ := I.list h2
  cases v2
  show wpAny _ _ (richCompare .NotEq (.ref a) (.ref b)) _ _ _
  cases v1 with
  | nil => exact PySem.SeqAt.RcNeAt.lists (e := fun _ => true) t1.isList t2.isList rfl (by omega) (fun j h1 _ => absurd h1 (by simp)) _ _ _ _ ⟨.bl false, H, I, rfl, q⟩
  | cons r rr => exact PySem.SeqAt.RcNeAt.lists_lengths t1.isList t2.isList (by simp) (by omega) _ _ _ _ ⟨.bl true, H, I, rfl, q⟩
def ne0M : Sto → D → D → Option D := fun st x y => (lstS st x).bind fun xs => (lstS st y).bind fun ys => if ys.isEmpty = true then some (.bl (!xs.isEmpty)) else none
theorem d_ne0M : OpD M.G (rNe0M M.K) ne0M := by
  intro w st x y dx dy d Q rel rx ry e q
  unfold ne0M at e
  cases q1 : lstS st dx with
  | none => rw [q1] at e; cases e
  | some xs =>
    cases q2 : lstS st dy with
    | none => rw [q1, q2] at e; cases e
    | some ys =>
      rw [q1, q2] at e
      replace e : (if ys.isEmpty = true then some (D.bl (!xs.isEmpty)) else none) = some d := e
      split at e
      case isFalse => cases e
      rename_i hy
      cases e
      obtain ⟨a, vs, rfl, h1, h2⟩ := lstS_rep rel rx q1
      obtain ⟨b, ws, rfl, k1, k2⟩ := lstS_rep rel ry q2
      rw [List.isEmpty_iff.mp hy] at k2
      have k3 := k2.inv_nil'
      subst k3
      refine ⟨a, b, vs, rfl, rfl, h1, k1, ?_⟩
      have e : vs.isEmpty = xs.isEmpty := by
        have l := h2.1
        cases vs <;> cases xs <;> first | rfl | (simp at l)
      rw [e]
      exact q w _ (Step.refl w) rel (.bl _)
end
end DS
namespace DS
open PySem PySem.Spec PyProof.Rows L2
abbrev IniW : Type := Option (Str × Str × Arguments × FuncBody × Scope × Addr × List Str × Addr)
/-- the __init__ of the class cls -/
structure IniD where
  cls : Str
  qual : Str
  params : Arguments
  body : List Stmt
  scope : Scope
def iniA (K : PySem.W.Frag) (a : Addr) : IniW := match K.lookup a with
  | some ⟨_, _, .func fd, _⟩ => some (fd.name, fd.qualname, fd.params, fd.body, fd.scope, fd.globals, fd.closure.map (·.1), fd.builtins)
  | _ => none
def IniD.val (d : IniD) : IniW := some ("__init__", d.qual, d.params, .stmts d.body, d.scope, mainGlobals, ["__class__"], builtinsNs)
def inA (K : PySem.W.Frag) (x : Str) : Addr := He.ma K (He.ga K x) "__init__"
def cdFile (K : PySem.W.Frag) (v : Value) (file : Str) : Bool := match v with
  | .ref cda => (match K.lookup cda with
    | some ⟨_, _, .fields vs, _⟩ => (match (vs[2]? : Option Value) with
      | some (.str f _) => f == file
      | _ => false)
    | _ => false)
  | _ => false
theorem cdFile_ok {K : PySem.W.Frag} {v : Value} {file : Str} (h : cdFile K v file = true) : ∃ cda ccl cdd vs tf ccs, v = .ref cda ∧ K.lookup cda = some ⟨ccl, cdd, .fields vs, ccs⟩ ∧ (vs[2]? : Option Value) = some (.str file tf) := by
  unfold cdFile at h
  split at h
  case h_2 => cases h
  split at h
  case h_2 => cases h
  rename_i hc
  split at h
  case h_2 => cases h
  rename_i hv
  rw [eq_of_beq h] at hv
  exact ⟨_, _, _, _, _, _, rfl, hc, hv⟩
def celB (K : PySem.W.Frag) (cl : List (Str × Addr)) (C : Addr) : Bool := match cl with
  | [(_, cc)] => (match K.lookup cc with
    | some ⟨_, _, .cell (some (.ref D)), _⟩ => D == C
    | _ => false)
  | _ => false
theorem celB_ok {K : PySem.W.Frag} {cl : List (Str × Addr)} {C : Addr} (h : celB K cl C = true) : ∃ nm cc k cld csl, cl = [(nm, cc)] ∧ K.lookup cc = some ⟨k, cld, .cell (some (.ref C)), csl⟩ := by
  unfold celB at h
  split at h
  case h_2 => cases h
  split at h
  case h_2 => cases h
  rename_i hc
  rw [eq_of_beq h] at hc
  exact ⟨_, _, _, _, _, rfl, hc⟩
/-- the def's code, its cell, no defaults -/
def iniB (K : PySem.W.Frag) (C fI : Addr) (q file : Str) : Bool := match K.lookup fI with
  | some ⟨_, _, .func fd, _⟩ => fd.defaults == .none && (fd.kwdefaults == .none && (PySem.W.codeIn K fd.code q && (cdFile K fd.code file && celB K fd.closure C)))
  | _ => false
/-- what is tested of the class of an own error -/
def errB (x f q file : Str) (B newId initId : String) (bmB : List Value) : Bk := fun K =>
  iniB K (He.ga K x) (inA K x) q file && ((PySem.W.clsIn K (He.ga K x)).isSome && (PySem.W.findIn K (.ref (He.ga K x)) "__init__" == some (some (.ref (inA K x))) && (PySem.W.isFn K (.ref (inA K x)) &&
  (PySem.W.excInitIn K (He.ga K x) bmB newId && (PySem.W.findIn K (.ref (He.ga K x)) "__setattr__" == some (some (.builtin "object.__setattr__")) && (PySem.W.excOver K (He.ga K x) bmB && (PySem.W.takerIn K (He.ga K x) f == some none &&
  (PySem.W.hasDictIn K (He.ga K x) && (PySem.W.keepIn K (.ref (He.ga K x)) && (PySem.W.subIn K (.ref (He.ga K x)) (.type "BaseException") == some true && (PySem.W.subIn K (.ref (He.ga K x)) (.type B) == some true && (PySem.W.typeIn K (.ref (He.ga K x)) == some (.type "type") &&
  (PySem.W.nsIn K cStatics "thirdparty.any" == some none && (PySem.W.ks_superIn K (He.ga K x) (He.ga K x) "__init__" == some (some (.builtin initId)) && (PySem.W.mroIn K (He.ga K x) (.ref (He.ga K x)) == some true && (xfB K (He.ga K x) && PySem.W.findIn K (.ref (He.ga K x)) f == some none))))))))))))))))
theorem errTxt_of {K : PySem.W.Frag} {d : IniD} {x f file : Str} {B newId initId : String} {bmB : List Value} (hx : d.cls = x) (e : iniA K (inA K d.cls) = d.val) (c : errB x f d.qual file B newId initId bmB K = true) :
    ErrTxt K (He.ga K x) (inA K x) d.qual file d.params d.body d.scope f B newId initId bmB ∧ XfC K (He.ga K x) ∧ PySem.W.findIn K (.ref (He.ga K x)) f = some none := by
  subst hx
  obtain ⟨c1, c⟩ := He.ba c
  obtain ⟨c2, c⟩ := He.ba c
  obtain ⟨c3, c⟩ := He.ba c
  obtain ⟨c4, c⟩ := He.ba c
  obtain ⟨c5, c⟩ := He.ba c
  obtain ⟨c6, c⟩ := He.ba c
  obtain ⟨c7, c⟩ := He.ba c
  obtain ⟨c8, c⟩ := He.ba c
  obtain ⟨c9, c⟩ := He.ba c
  obtain ⟨c10, c⟩ := He.ba c
  obtain ⟨c11, c⟩ := He.ba c
  obtain ⟨c12, c⟩ := He.ba c
  obtain ⟨c13, c⟩ := He.ba c
  obtain ⟨c14, c⟩ := He.ba c
  obtain ⟨c15, c⟩ := He.ba c
  obtain ⟨c16, c⟩ := He.ba c
  obtain ⟨c17, c18⟩ := He.ba c
  refine ⟨⟨?_, Option.isSome_iff_exists.mp c2, eq_of_beq c3, c4, c5, eq_of_beq c6, c7, eq_of_beq c8, c9, c10, eq_of_beq c11, eq_of_beq c12, eq_of_beq c13, eq_of_beq c14, eq_of_beq c15, eq_of_beq c16⟩, xfB_ok c17, eq_of_beq c18⟩
  unfold iniA at e
  unfold iniB at c1
  cases q : K.lookup (inA K d.cls) with
  | none => rw [q] at c1; cases c1
  | some o =>
    obtain ⟨oc, od, dt, osl⟩ := o
    rw [q] at c1 e
    cases dt with
    | func fd =>
      obtain ⟨n1, n2, n3, n4, n5, n6, n7, n8, n9, n10, n11, n12, n13, n14, n15⟩ := fd
      have e2 : (some (n1, n2, n3, n4, n5, n6, n7.map (·.1), n15) : IniW) = IniD.val d := e
      unfold IniD.val at e2
      simp only [Option.some.injEq, Prod.mk.injEq] at e2
      obtain ⟨h1, h2, h3, h4, h5, h6, h7, h8⟩ := e2
      subst h1 h2 h3 h4 h5 h6 h8
      obtain ⟨k1, c1⟩ := He.ba c1
      obtain ⟨k2, c1⟩ := He.ba c1
      obtain ⟨k3, c1⟩ := He.ba c1
      obtain ⟨k4, k5⟩ := He.ba c1
      have w1 : n8 = .none := eq_of_beq k1
      have w2 : n9 = .none := eq_of_beq k2
      clear k1 k2
      subst w1 w2
      obtain ⟨cda, ccl, cdd, vs, tf, ccs, u1, hcode, hvs⟩ := cdFile_ok k4
      obtain ⟨nm, cc, cl, cld, csl, u2, hcell⟩ := celB_ok k5
      have u1 : n13 = .ref cda := u1
      have u2 : n7 = [(nm, cc)] := u2
      subst u1 u2
      have h7 : nm = "__class__" := by
        have z : [nm] = [("__class__" : Str)] := h7
        injection z
      subst h7
      exact ⟨oc, od, n10, n11, n14, n12, osl, cda, cc, ccl, cl, cdd, cld, vs, tf, ccs, csl, rfl, k3, hcode, hvs, hcell⟩
    | _ => cases c1
abbrev AlI : Type := He.AlD × List IniW × Bool
def obsI (fa : List He.Fa) (ex : List Bk) (fn : List DefA) (ini : List IniD) (tf : List LamDef) (g : Addr → Option Obj) (K : PySem.W.Frag) : AlI := (obsA fa ex fn K, ini.map fun d => iniA K (inA K d.cls), codesB tf K && emptiesB g tf K)
def valI (fn : List DefA) (ini : List IniD) : AlI := (valA fn, ini.map IniD.val, true)
def obsIG (n : Nat) (fa : List He.Fa) (ex : List Bk) (fn : List DefA) (ini : List IniD) (tf : List LamDef) (g : Addr → Option Obj) : AlI := walkG g (n + 1) [mainGlobals, cStatics] .nil [] fun K => revK (keepT K) fun K => obsI fa ex fn ini tf g K
structure SaysI (fa : List He.Fa) (ex : List Bk) (fn : List DefA) (ini : List IniD) (tf : List LamDef) (h : Heap) (K : PySem.W.Frag) : Prop where
  a : SaysA fa ex fn K
  i : ini.map (fun d => iniA K (inA K d.cls)) = ini.map IniD.val
  t : TabsSay tf h K
def hookI (n : Nat) (fa : List He.Fa) (ex : List Bk) (fn : List DefA) (ini : List IniD) (tf : List LamDef) : PySem.W.Hook where
  α := AlI
  obs := fun s => obsIG n fa ex fn ini tf s.heap.get?
  val := fun _ => valI fn ini
  says := fun _ h => ∃ K : PySem.W.Frag, K.In h ∧ SaysI fa ex fn ini tf h K
  of := fun _ s e => by
    obtain ⟨K, h, q⟩ := walkG_eq (g := s.heap.get?) (n + 1) [mainGlobals, cStatics] .nil [] (fun K => revK (keepT K) fun K => obsI fa ex fn ini tf s.heap.get? K) (fun a o m => nomatch m)
    have z := (revK_eq (keepT K) (fun K => obsI fa ex fn ini tf s.heap.get? K)).symm.trans (q.symm.trans e)
    exact ⟨(keepT K).reverse, inG_in (keep_in h), congrArg (fun z : AlI => z.1) z, congrArg (fun z : AlI => z.2.1) z, tabs_say h (congrArg (fun z : AlI => z.2.2) z)⟩
  keeps := fun _ _ _ ⟨K, hK, c⟩ k => ⟨K, PySem.W.Frag.In.keeps hK k, c.a, c.i, c.t.code, c.t.out, fun p hp => k _ _ (c.t.empty p hp)⟩
theorem obsIG_eq {n : Nat} {fa : List He.Fa} {ex : List Bk} {fn : List DefA} {ini : List IniD} {tf : List LamDef} {g : Addr → Option Obj} {s : Shared} (h : ∀ a, g a = s.heap.get? a) : obsIG n fa ex fn ini tf g = (hookI n fa ex fn ini tf).obs s := by
  have e : g = s.heap.get? := funext h
  rw [e] <;> rfl
theorem SaysI.ini {fa : List He.Fa} {ex : List Bk} {fn : List DefA} {ini : List IniD} {tf : List LamDef} {h : Heap} {K : PySem.W.Frag} (c : SaysI fa ex fn ini tf h K) (i : Nat) {d : IniD} (e : ini[i]? = some d := by rfl) : iniA K (inA K d.cls) = d.val := by
  have e2 : (ini.map fun d => iniA K (inA K d.cls))[i]? = (ini.map IniD.val)[i]? := by rw [c.i]
  rw [List.getElem?_map, List.getElem?_map, e] at e2
  exact Option.some.inj e2
/-- errors over IndexError -/
theorem exk_IndexError : ExcK "IndexError" "IndexError.__new__" "IndexError.__init__" [.type "IndexError", .type "LookupError", .type "Exception", .type "BaseException", .type "object"] := ⟨PySem.W.kxs_IndexError, PySem.F.excBase_IndexError, PySem.F.store_IndexError⟩
theorem HasT.nil {M : Mo} {j : Nat} : HasT M [] j := fun _ _ _ m => nomatch m
theorem HasT.cons {M : Mo} {j j' n : Nat} {y : Str} {ps : List Str} {ff : FF} {t : FTab} (h : Has M y j ps [] (spD M.G n ff)) (hj : j ≤ j') (r : HasT M t j') : HasT M ((y, n, ff) :: t) j' := fun y' n' ff' m => by
  rcases List.mem_cons.mp m with e | m
  · cases e
    obtain ⟨fd, a, ds, F, z⟩ := h
    exact ⟨ps, fd, a, ds, F.mono hj, z⟩
  · exact r y' n' ff' m
/-- the end: what the head says, what the law's def computes -/
theorem lawAt_of {l : PySem.W.OpenLaw} {w : World} {K : PySem.W.Frag} {k n : Nat} {x : Str} {mg : Str → Option Value} {f : Addr} {h : Heap} {fa : List He.Fa} {ex : List Bk} {fn : List DefA} {ini : List IniD} {tf : List LamDef} {fd : FuncData} {ff : FF} (KX : K.In h) (c : SaysI fa ex fn ini tf h K)
    (hb : ∀ (s : Shared) (u : Value), BindsTo s fd ⟨[u], []⟩ [(x, u)]) (hp : ∀ ns : List Int, ns.length ≤ n → ff [] [.scr (ns.map D.int)] = .ok (.bl true) [])
    (hF : ∀ base : Heap, K.In base → base.Ns mainGlobals mg → (∀ p ∈ csL tf K, LamX.TabB base mg p.1 p.2) → FnG l.prog w K mg base (L2.CX l.prog w) k f fd [x] (spD ⟨K, mg, tabL tf K, fun _ => none⟩ 1 ff)) : LawAtG l w K k n x mg f h := by
  refine ⟨fd, csL tf K, spD ⟨K, mg, tabL tf K, fun _ => none⟩ 1 ff, fun p hp => ?_, fun p hp => ?_, fun p hp => ?_, hb, fun H a ns hl hT hS => law_spT (hp ns hl) hS fun p hp => ?_, hF⟩
  · obtain ⟨q, hq, rfl⟩ := List.mem_map.mp hp
    exact c.t.empty q hq
  · obtain ⟨q, hq, rfl⟩ := List.mem_map.mp hp
    exact c.t.out q hq
  · obtain ⟨q, hq, rfl⟩ := List.mem_map.mp hp
    exact PySem.W.codeHd_of_K KX (List.all_eq_true.mp (He.ba c.t.code).1 q hq)
  · obtain ⟨q, hq, rfl⟩ := List.mem_map.mp hp
    exact hT _ (List.mem_map.mpr ⟨q, hq, rfl⟩)
end DS
namespace DS
open PySem PySem.Spec PyProof.Rows L2
end DS
namespace DS
open PySem PySem.Spec PyProof.Rows L2
theorem addK_nat {α β : Type} (F : α → β) : ∀ (n : Nat) (t : NSet) (i : Nat) (k : NSet → α), F (NSet.addK n t i k) = NSet.addK n t i (fun t => F (k t))
  | 0, t, _, k => rfl
  | n + 1, t, i, k => by
    unfold NSet.addK
    split
    · split <;> rfl
    · split
      · rw [frN_eq, frN_eq]
        split
        · exact addK_nat F n .nil (i / 2) fun l => k (.node false l .nil)
        · rename_i b l r
          exact addK_nat F n l (i / 2) fun l => k (.node b l r)
      · rw [frN_eq, frN_eq]
        split
        · exact addK_nat F n .nil (i / 2 - 1) fun r => k (.node false .nil r)
        · rename_i b l r
          exact addK_nat F n r (i / 2 - 1) fun r => k (.node b l r)
theorem visit_nat {α β : Type} (F : α → β) {g : Addr → Option Obj} : ∀ (as : List Addr) (t : NSet) (acc : PySem.W.Frag) (nx : List Addr) (k : NSet → PySem.W.Frag → List Addr → α), F (visit g as t acc nx k) = visit g as t acc nx fun t acc nx => F (k t acc nx)
  | [], t, acc, nx, k => rfl
  | a :: r, t, acc, nx, k => by
    unfold visit
    rw [frN_eq, frN_eq]
    split
    · exact visit_nat F r t acc nx k
    · rw [addK_nat F]
      congr 1
      funext t'
      split
      · exact visit_nat F r t' acc nx k
      · exact visit_nat F r t' _ _ k
theorem walkG_nat {α β : Type} (F : α → β) {g : Addr → Option Obj} : ∀ (n : Nat) (as : List Addr) (t : NSet) (acc : PySem.W.Frag) (k : PySem.W.Frag → α), F (walkG g n as t acc k) = walkG g n as t acc fun K => F (k K)
  | 0, as, t, acc, k => rfl
  | n + 1, as, t, acc, k => by
    show F (visit g as t acc [] fun t acc nx => walkG g n nx t acc k) = visit g as t acc [] fun t acc nx => walkG g n nx t acc fun K => F (k K)
    rw [visit_nat F]
    congr 1
    funext t acc nx
    exact walkG_nat F n nx t acc k
/-- one check -/
def obF (n : Nat) (p : PySem.W.Frag → Bool) (g : Addr → Option Obj) : Bool := walkG g (n + 1) [mainGlobals, cStatics] .nil [] fun K => revK (keepT K) p
theorem obF_at (n : Nat) (g : Addr → Option Obj) : ∃ K : PySem.W.Frag, (∀ p, obF n p g = p K) ∧ ∀ fa ex fn ini tf, obsIG n fa ex fn ini tf g = obsI fa ex fn ini tf g K := by
  refine ⟨(keepT (walkG g (n + 1) [mainGlobals, cStatics] .nil [] fun K => K)).reverse, fun p => ?_, fun fa ex fn ini tf => ?_⟩
  · have := walkG_nat (fun K => revK (keepT K) p) (g := g) (n + 1) [mainGlobals, cStatics] .nil [] fun K => K
    exact this.symm.trans (revK_eq _ _)
  · have := walkG_nat (fun K => revK (keepT K) fun K => obsI fa ex fn ini tf g K) (g := g) (n + 1) [mainGlobals, cStatics] .nil [] fun K => K
    exact this.symm.trans (revK_eq _ _)
theorem obs_parts {S : Type} {o : Option S} {g : S → Addr → Option Obj} {n : Nat} {fa : List He.Fa} {ex : List Bk} {fn : List DefA} {ini : List IniD} {tf : List LamDef}
    (h1 : o.map (fun s => obF n (fun K => fa.all fun f => f.ok K) (g s)) = some true) (h2 : o.map (fun s => obF n (fun K => ex.all fun b => b K) (g s)) = some true) (h3 : o.map (fun s => obF n (fun K => fn.all fun d => d.ok K) (g s)) = some true) :
    o.map (fun s => (obsIG n fa ex fn ini tf (g s)).1.1) = some true := by
  cases o with
  | none => cases h1
  | some s =>
    have h1 := Option.some.inj h1
    have h2 := Option.some.inj h2
    have h3 := Option.some.inj h3
    obtain ⟨K, k1, k2⟩ := obF_at n (g s)
    simp only [k1] at h1 h2 h3
    show some (obsIG n fa ex fn ini tf (g s)).1.1 = _
    rw [k2]
    show some ((fa.all fun f => f.ok K) && ((ex.all fun b => b K) && fn.all fun d => d.ok K)) = _
    rw [h1, h2, h3]
    rfl
end DS
namespace DS
open PySem PySem.Spec PyProof.Rows L2
end DS
namespace DS
open PySem PySem.Spec PyProof.Rows L2
section
variable {M : Mo} {k : Nat} {W : WX} {N : List Str} {sc : Sc} {e : Expr} {es : List Expr} {f : EE} {fs : EA} {p pos : Pos} {x : Str}
abbrev FTabD := List (Str × Nat × List D × FF)
def HasTD (M : Mo) (tbl : FTabD) (j : Nat) : Prop := ∀ y n dds ff, (y, n, dds, ff) ∈ tbl → ∃ ps dvs, Has M y j ps dvs (spD M.G n ff) ∧ ∀ I ph, Reps M.G I ph dvs dds
end
theorem HasTD.nil {M : Mo} {j : Nat} : HasTD M [] j := fun _ _ _ _ m => nomatch m
theorem HasTD.cons {M : Mo} {j j' n : Nat} {y : Str} {ps : List Str} {dvs : List V} {dds : List D} {ff : FF} {t : FTabD} (h : Has M y j ps dvs (spD M.G n ff)) (hd : ∀ I ph, Reps M.G I ph dvs dds) (hj : j ≤ j') (r : HasTD M t j') : HasTD M ((y, n, dds, ff) :: t) j' := fun y' n' dds' ff' m => by
  rcases List.mem_cons.mp m with e | m
  · cases e
    obtain ⟨fd, a, ds, F, z⟩ := h
    exact ⟨ps, dvs, ⟨fd, a, ds, F.mono hj, z⟩, hd⟩
  · exact r y' n' dds' ff' m
end DS
namespace DS
open PySem PySem.Spec PyProof.Rows L2
end DS
namespace DS
open PySem PySem.Spec PyProof.Rows L2
end DS
namespace DS
open PySem PySem.Spec PyProof.Rows L2
end DS
namespace DS
open PySem PySem.Spec PyProof.Rows L2
def pairE (tbl : List (Str × FF)) (x y : D) : Bool := match flatD x, flatD y with
  | some a, some b => eqV a b
  | _, _ => match x, y with
    | .obj c fs, .obj c' gs => decide (c = c') && ((D.obj c fs).noH && ((D.obj c' gs).noH && (match tget tbl c with
      | some ff => (match ff [] [.obj c fs, .obj c' gs] with
        | .ok (.bl true) [] => true
        | _ => false)
      | none => false)))
    | _, _ => false
def pairsE (tbl : List (Str × FF)) : List D → List D → Bool
  | [], [] => true
  | x :: xs, y :: ys => pairE tbl x y && pairsE tbl xs ys
  | _, _ => false
def eqLD (tbl : List (Str × FF)) : Sto → D → D → Option D := fun _ x y => match x, y with
  | .lst xs, .lst ys => if pairsE tbl xs ys = true then some (.bl true) else none
  | .tup xs, .tup ys => if pairsE tbl xs ys = true then some (.bl true) else none
  | _, _ => none
def eqX (tbl : List (Str × FF)) : Sto → D → D → Option D := fun st x y => (eqD st x y).or (eqLD tbl st x y)
/-- later: all that is there stays, the tables of code objects aside, which stay tables -/
structure Gw (T : List (Addr × Str)) (H H' : Hp) : Prop where
  kp : ∀ p q, H p = some q → (∀ ps, q ≠ .tbl ps) → H' p = some q
  fr : ∀ p, Fr H' p → Fr H p
  tb : (∀ z ∈ T, LamX.TabS H z.1 z.2) → ∀ z ∈ T, LamX.TabS H' z.1 z.2
theorem Gw.refl {T : List (Addr × Str)} {H : Hp} : Gw T H H := ⟨fun _ _ e _ => e, fun _ e => e, fun e => e⟩
theorem Gw.trans {T : List (Addr × Str)} {H H1 H2 : Hp} (x : Gw T H H1) (y : Gw T H1 H2) : Gw T H H2 := ⟨fun p q e n => y.kp p q (x.kp p q e n) n, fun p e => x.fr p (y.fr p e), fun e => y.tb (x.tb e)⟩
def MonT (T : List (Addr × Str)) (D : Eqv) : Prop := ∀ x y H H', Gw T H H' → D x y H → D x y H'
def GoT (X : Cx) (T : List (Addr × Str)) (pins : List (Addr × Obj)) (σ : L2.St) (H : Hp) (z : Shared) : Prop := ∃ H2, Inv X pins σ H2 z ∧ Gw T H H2
/-- == tells True where D holds -/
def EqT (X : Cx) (T : List (Addr × Str)) (m : Nat) (D : Eqv) : Prop :=
  ∀ (B : Around) (pins : List (Addr × Obj)) (z : Shared) (σ : L2.St) (H : Hp) (x y : V) (u v : Value), Sub X m B → Inv X pins σ H z → RelV x u → RelV y v → D x y H →
    wpAny (model X.prog X.w) B (eqBool u v) (fun b z2 => b = true ∧ GoT X T pins σ H z2) X.xe z
def RcT (X : Cx) (T : List (Addr × Str)) (m : Nat) (D : Eqv) : Prop :=
  ∀ (B : Around) (pins : List (Addr × Obj)) (z : Shared) (σ : L2.St) (H : Hp) (x y : V) (u v : Value), Sub X m B → Inv X pins σ H z → RelV x u → RelV y v → D x y H →
    wpAny (model X.prog X.w) B (richCompare .Eq u v) (fun b z2 => b = .bool true ∧ GoT X T pins σ H z2) X.xe z
section
variable {X : Cx} {T : List (Addr × Str)} {m k : Nat} {D D' : Eqv}
theorem EqT.mono (h : EqT X T m D) (hk : m ≤ k) : EqT X T k D := fun B pins z σ H x y u v sb => h B pins z σ H x y u v (sb.mono hk)
theorem EqT.or (h : EqT X T m D) (h' : EqT X T m D') : EqT X T m (fun x y H => D x y H ∨ D' x y H) := fun B pins z σ H x y u v sb I rx ry d =>
  match d with
  | .inl d => h B pins z σ H x y u v sb I rx ry d
  | .inr d => h' B pins z σ H x y u v sb I rx ry d
theorem MonT.or (h : MonT T D) (h' : MonT T D') : MonT T (fun x y H => D x y H ∨ D' x y H) := fun x y H H' e d =>
  match d with
  | .inl d => .inl (h x y H H' e d)
  | .inr d => .inr (h' x y H H' e d)
theorem monT_flat : MonT T DFlat := fun _ _ _ _ _ d => d
theorem eqT_flat : EqT X T 0 DFlat := fun B pins z σ H x y u v sb I rx ry d => by
  have q := eqAt_V (A := B) (s := z) rx ry d.1 d.2.1
  rw [d.2.2] at q
  exact q X.prog X.w X.xe _ ⟨rfl, H, I, Gw.refl⟩
theorem pairT {B : Around} (hD : MonT T D) (h : EqT X T m D) (sb : Sub X (m + 1) B) {pins : List (Addr × Obj)} {σ : L2.St} {H : Hp} {xs ys : List V} {us vs : List Value} (p : Prs D xs ys H) (r1 : Vals xs us) (r2 : Vals ys vs)
    (i : Nat) (g1 : i < us.toArray.size) (g2 : i < vs.toArray.size) (z : Shared) (l : GoT X T pins σ H z) :
    wpAny (model X.prog X.w) B.in1 (eqBool us.toArray[i] vs.toArray[i]) (fun b z2 => b = true ∧ GoT X T pins σ H z2) X.xe z := by
  obtain ⟨H1, J, e1⟩ := l
  have gu : i < us.length := by simpa using g1
  have gv : i < vs.length := by simpa using g2
  have kx : i < xs.length := by rw [r1.length]; exact gu
  have ky : i < ys.length := by rw [r2.length]; exact gv
  obtain ⟨u, hu, ru⟩ := r1.get (List.getElem?_eq_getElem kx)
  obtain ⟨v, hv, rv⟩ := r2.get (List.getElem?_eq_getElem ky)
  rw [List.getElem?_eq_getElem gu] at hu
  rw [List.getElem?_eq_getElem gv] at hv
  have eu : us.toArray[i] = u := by simpa using Option.some.inj hu
  have ev : vs.toArray[i] = v := by simpa using Option.some.inj hv
  rw [eu, ev]
  refine wpAny_mono (h B.in1 pins z σ H1 _ _ u v sb.in1 J ru rv (hD _ _ _ _ e1 (p.2 i _ _ (List.getElem?_eq_getElem kx) (List.getElem?_eq_getElem ky)))) (fun b z2 q => ?_) fun _ _ e => e
  obtain ⟨hb, H2, J2, e2⟩ := q
  exact ⟨hb, H2, J2, e1.trans e2⟩
theorem rcT_list (hD : MonT T D) (h : EqT X T m D) : RcT X T (m + 1) (DList D) := fun B pins z σ H x y u v sb I rx ry d => by
  obtain ⟨a, b, xs, ys, rfl, rfl, ha, hb, p⟩ := d
  cases rx
  cases ry
  refine GQ.rc_listG (N := xs.length) sb.room.units0 (fun _ z2 => GoT X T pins σ H z2) (fun i z2 q => ?_) (fun z2 q => ⟨rfl, q⟩) ⟨H, I, Gw.refl⟩
  obtain ⟨H1, J, e1⟩ := id q
  obtain ⟨_, us, k1, r1, c1⟩ := J.hok a _ (e1.kp _ _ ha (by intro _ w; cases w))
  obtain ⟨_, vs, k2, r2, c2⟩ := J.hok b _ (e1.kp _ _ hb (by intro _ w; cases w))
  exact ⟨us.toArray, vs.toArray, k1, k2, c1, c2, by rw [List.size_toArray, ← r1.length], by rw [List.size_toArray, ← r2.length, ← p.1], fun g1 g2 => pairT hD h sb p r1 r2 i g1 g2 z2 q⟩
theorem rcT_tup (hD : MonT T D) (h : EqT X T m D) : RcT X T (m + 1) (DTup X.K D) := fun B pins z σ H x y u v sb I rx ry d => by
  obtain ⟨a, b, xs, ys, rfl, rfl, ha, hb, p⟩ := d
  cases rx
  cases ry
  obtain ⟨us, r1, c1, _⟩ := I.tuple ha
  obtain ⟨vs, r2, c2, _⟩ := I.tuple hb
  have hz : us.toArray.size = vs.toArray.size := by
    have := p.1
    have h1 := r1.length
    have h2 := r2.length
    simp only [List.size_toArray]
    omega
  exact GQ.rc_tupG hz sb.room.units0 (fun _ z2 => GoT X T pins σ H z2) c1 c2 (fun i g1 g2 z2 q => pairT hD h sb p r1 r2 i g1 g2 z2 q) (fun z2 q => ⟨rfl, q⟩) ⟨H, I, Gw.refl⟩
theorem RcT.eqT (h : RcT X T m D) (hr : ∀ x y H, D x y H → ∃ a b, x = .ref a ∧ y = .ref b) : EqT X T m D := fun B pins z σ H x y u v sb I rx ry d => by
  obtain ⟨a, b, ea, eb⟩ := hr _ _ _ d
  subst ea eb
  cases rx
  cases ry
  rcases Decidable.em (a = b) with e | e
  · subst e
    exact SeqAt.EqAt.same (A := B) (s := z) (.ref a) X.prog X.w X.xe _ ⟨rfl, H, I, Gw.refl⟩
  · exact GQ.eqBool_refG e (wpAny_mono (h B pins z σ H (.ref a) (.ref b) _ _ sb I rfl rfl d) (fun b z2 q => ⟨true, q.1, rfl, q.2⟩) fun _ _ e => e)
def rEqT (T : List (Addr × Str)) (D : Eqv) : R2 := fun x y H Q => D x y H ∧ ∀ H2, Gw T H H2 → Q (.bl true) H2
theorem op_eqT (h : RcT X T m D) (hr : Room m X.A) : OpR X (compareOp .Eq) (rEqT T D) := fun pins z σ H x y u v Q I rx ry hq => by
  show wpAny (model X.prog X.w) X.A (richCompare .Eq u v) (EP X pins σ Q) X.xe z
  refine wpAny_mono (h X.A pins z σ H x y u v ⟨hr, rfl⟩ I rx ry hq.1) (fun b z2 q => ?_) fun _ _ e => e
  obtain ⟨hb, H2, J, e⟩ := q
  subst hb
  exact ⟨.bl true, H2, J, rfl, hq.2 H2 e⟩
end
/-- two objects of one class that their own == takes for equal, also later -/
def DObj (M : Mo) (tbl : List (Str × FF)) : Eqv := fun x y H => ∃ c ff C a b dx dy vs ws, (c, ff) ∈ tbl ∧ M.mg c = some (.ref C) ∧ x = .ref a ∧ y = .ref b ∧ SlX.Slt H a C dx vs ∧ SlX.Slt H b C dy ws ∧
  ∀ H', Gw M.T H H' → spD M.G 2 ff [x, y] H' (fun z H2 => z = .bl true ∧ Gw M.T H' H2) (fun _ _ _ => False)
theorem slt_ext {T : List (Addr × Str)} {H H' : Hp} {a C dx : Addr} {vs : List (Option V)} (h : SlX.Slt H a C dx vs) (e : Gw T H H') : SlX.Slt H' a C dx vs := by
  rcases h with ⟨h, z⟩ | ⟨h, h2⟩
  · exact .inl ⟨e.kp _ _ h (by intro _ w; cases w), z⟩
  · exact .inr ⟨e.kp _ _ h (by intro _ w; cases w), e.kp _ _ h2 (by intro _ w; cases w)⟩
theorem mon_obj {M : Mo} {tbl : List (Str × FF)} : MonT M.T (DObj M tbl) := by
  rintro x y H H' e ⟨c, ff, C, a, b, dx, dy, vs, ws, h1, h2, h3, h4, h5, h6, h7⟩
  exact ⟨c, ff, C, a, b, dx, dy, vs, ws, h1, h2, h3, h4, slt_ext h5 e, slt_ext h6 e, fun H2 e2 => h7 H2 (e.trans e2)⟩
section
variable {M : Mo} {k : Nat} {W : WX} {N : List Str} {sc : Sc} {tbl : List (Str × FF)} {j : Nat}
theorem rc_obj {X : Cx} (ht : ∀ c ff, (c, ff) ∈ tbl → HasE M c j ff) (c : CK M k W N sc X) : RcT X M.T j (DObj M tbl) := by
  intro A pins s σ H x y u v sb I rx ry d
  obtain ⟨cn, ff, C, a, b, dx, dy, vs, ws, hm, hC, rfl, rfl, hx, hy, hs⟩ := d
  obtain ⟨C', g', hC', h1, h2, h3, h4, F⟩ := ht cn ff hm
  rw [hC] at hC'
  cases hC'
  obtain ⟨eP, ew, eK, em, eb, eN, eS, ecalm, rm, nd, fn, pass, hla, hgd, hge⟩ := c
  cases X
  subst eP ew eK em eb
  cases rx
  cases ry
  obtain ⟨sl, od, _, J, _⟩ := SlX.slt_inst I hx
  obtain ⟨sl', od', _, J', _⟩ := SlX.slt_inst I hy
  obtain ⟨mm, hF⟩ := I.fr
  refine PySem.W.cmp_K (op := .Eq) (tb := .ref C) sb.room.units0 hF I.ok.mod.kin J J'.type (by simp [PySem.W.notFirst]) h1 h2 ?_
  have e0 := I.env0
  have e1 : Env0 M.P M.w M.K M.mg M.base A _ s H := ⟨by rw [sb.fr]; exact e0.frames, e0.mod, e0.bs, e0.bsz, e0.funs, e0.frf, e0.hok, e0.bare⟩
  refine wpAny_mono (run_fn1 (us := [.ref a, .ref b]) (vs := [.ref a, .ref b]) F sb.room e1 (fun pins' H'' s' e s'' I' h => ?_) I (.cons rfl (.cons rfl .nil)) (hs H Gw.refl)) (fun z s' hz => ?_) fun _ _ z => z
  · obtain ⟨_, _, _, _, _, _, _, _, _, _, _, _, z⟩ := h
    exact z.elim
  · obtain ⟨z', H', I', rz, ez, ex⟩ := hz
    subst ez
    cases rz
    exact ⟨rfl, H', I', ex⟩
def DEl (M : Mo) (tbl : List (Str × FF)) : Eqv := fun x y H => DFlat x y H ∨ DObj M tbl x y H
theorem mon_el : MonT M.T (DEl M tbl) := MonT.or monT_flat mon_obj
theorem eq_el {X : Cx} (ht : ∀ c ff, (c, ff) ∈ tbl → HasE M c j ff) (c : CK M k W N sc X) : EqT X M.T j (DEl M tbl) :=
  (eqT_flat.mono (Nat.zero_le j)).or ((rc_obj ht c).eqT fun _ _ _ d => let ⟨_, _, _, a, b, _, _, _, _, _, _, hx, hy, _⟩ := d; ⟨a, b, hx, hy⟩)
def rEqX (M : Mo) (tbl : List (Str × FF)) : R2 := fun x y H Q => rEqT M.T (DList (DEl M tbl)) x y H Q ∨ rEqT M.T (DTup M.K (DEl M tbl)) x y H Q
theorem op_eqX {X : Cx} (ht : ∀ c ff, (c, ff) ∈ tbl → HasE M c j ff) (hj : j + 1 ≤ k) (c : CK M k W N sc X) : OpR X (compareOp .Eq) (rEqX M tbl) := by
  have eK := c.eK
  have r := c.rm.mono hj
  refine (op_eqT (rcT_list mon_el (eq_el ht c)) r).or ?_
  have z := op_eqT (rcT_tup (X := X) mon_el (eq_el ht c)) r
  rw [eK] at z
  exact z
end
section
variable {M : Mo} {tbl : List (Str × FF)}
theorem sub_H {I H H' : Hp} {T : List (Addr × Str)} (sub : Evl.Ex I H) (no : ∀ a ps, I a ≠ some (.tbl ps)) (e : Gw T H H') : Evl.Ex I H' := fun a o h => e.kp a o (sub a o h) (fun ps z => no a ps (by rw [h, z]))
theorem rel_ext {w : Wd} {st : Sto} {H' : Hp} (rel : Rel M.G w st) (e : Gw M.T w.H H') : Rel M.G ⟨w.I, w.ph, H'⟩ st ∧ Step w ⟨w.I, w.ph, H'⟩ := by
  refine ⟨⟨sub_H rel.sub rel.tab.no e, rel.len, rel.nd, fun i a c hi hc => ?_, ⟨e.tb rel.tab.at_, rel.tab.no, fun j f c q hj => e.kp c _ (rel.tab.lam j f c q hj) codeO_nt⟩⟩, ⟨Evl.Ex.refl _, Px.refl, fun a o h => .inl h, fun a h => .inl h, fun a o h _ nt => e.kp a o h nt, fun a h => e.fr a h⟩⟩
  have ok := rel.cel i a c hi hc
  cases c with
  | lst xs =>
    obtain ⟨h1, vs, h2, h3⟩ := ok
    exact ⟨h1, vs, e.kp _ _ h2 (by intro _ z; cases z), h3⟩
  | dead =>
    obtain ⟨o, h1, h2⟩ := ok
    exact ⟨o, e.kp _ _ h1 h2.1, h2⟩
  | ob jj cc fs =>
    obtain ⟨h1, h2, C, dx, vs, h3, h4, h5, h6, h7⟩ := ok
    refine ⟨h1, h2, C, dx, vs, h3, h4, h5, ?_, h7⟩
    rcases h6 with ⟨z1, z2, z3⟩ | ⟨z1, z2⟩
    · exact .inl ⟨e.kp _ _ z1 (by intro _ z; cases z), e.kp _ _ z2 (by intro _ z; cases z), z3⟩
    · exact .inr ⟨e.kp _ _ z1 (by intro _ z; cases z), e.kp _ _ z2 (by intro _ z; cases z)⟩
theorem pair_el {w : Wd} {st : Sto} {x y : V} {dx dy : D} (rel : Rel M.G w st) (rx : Rep M.G w.I w.ph x dx) (ry : Rep M.G w.I w.ph y dy) (h : pairE tbl dx dy = true) : DEl M tbl x y w.H := by
  unfold pairE at h
  split at h
  · rename_i a b e1 e2
    obtain ⟨rfl, f1⟩ := flat_rep rx e1
    obtain ⟨rfl, f2⟩ := flat_rep ry e2
    exact .inl ⟨f1, f2, h⟩
  · split at h
    · rename_i c fs c' gs _
      rw [Bool.and_eq_true, Bool.and_eq_true, Bool.and_eq_true] at h
      obtain ⟨hc, n1, n2, h⟩ := h
      have hc : c = c' := of_decide_eq_true hc
      subst hc
      split at h
      · rename_i ff hq
        split at h
        · rename_i hf
          obtain ⟨a, C, d1, vs, rfl, m1, m2, m3, m4⟩ := obj_rep rel rx
          obtain ⟨b, C', d2, ws, rfl, k1, k2, k3, k4⟩ := obj_rep rel ry
          rw [m1] at k1
          cases k1
          refine .inr ⟨c, ff, C, a, b, d1, d2, vs, ws, tget_mem hq, m1, rfl, rfl, m3, k3, fun H' e => ?_⟩
          obtain ⟨r', _⟩ := rel_ext rel e
          refine ⟨rfl, ⟨w.I, [], H'⟩, [], [.obj c fs, .obj c gs], rfl, rel0 r', Reps.anyPh (Reps.cons rx (Reps.cons ry Reps.nil)) (by simp only [D.noHs]; rw [n1, n2]; rfl), ?_⟩
          rw [hf]
          intro w' v s r rv
          exact ⟨bl_rep rv, ⟨fun z o hz nt => s.keep z o hz (by simp) nt, fun z hz => s.live z hz, fun _ => r.tab.at_⟩⟩
        · cases h
      · cases h
    · cases h
theorem pairs_prs {w : Wd} {st : Sto} (rel : Rel M.G w st) : ∀ {xs ys : List V} {ds es : List D}, Reps M.G w.I w.ph xs ds → Reps M.G w.I w.ph ys es → pairsE tbl ds es = true → Prs (DEl M tbl) xs ys w.H
  | xs, ys, [], [], rx, ry, _ => by
    rw [List.eq_nil_of_length_eq_zero rx.1, List.eq_nil_of_length_eq_zero ry.1]
    exact Prs.nil
  | xs, ys, d :: ds, e :: es, rx, ry, h => by
    obtain ⟨x, xs', rfl, r1, r2⟩ := rx.inv_cons'
    obtain ⟨y, ys', rfl, q1, q2⟩ := ry.inv_cons'
    have h : (pairE tbl d e && pairsE tbl ds es) = true := h
    rw [Bool.and_eq_true] at h
    exact Prs.cons (pair_el rel r1 q1 h.1) (pairs_prs rel r2 q2 h.2)
  | _, _, [], _ :: _, _, _, h => by cases h
  | _, _, _ :: _, [], _, _, h => by cases h
theorem d_eqX : OpD M.G (rEqX M tbl) (eqLD tbl) := by
  intro w st x y dx dy d Q rel rx ry e q
  have fin : d = .bl true → ∀ H', Gw M.T w.H H' → Q (.bl true) H' := by
    rintro rfl H' ex
    obtain ⟨r', s'⟩ := rel_ext rel ex
    exact q ⟨w.I, w.ph, H'⟩ (.bl true) s' r' (.bl true)
  unfold eqLD at e
  split at e
  · split at e
    · rename_i hp
      obtain ⟨a, vs, rfl, h1, h2⟩ := rx.lst_inv
      obtain ⟨b, ws, rfl, k1, k2⟩ := ry.lst_inv
      exact .inl ⟨⟨a, b, vs, ws, rfl, rfl, rel.sub _ _ h1, rel.sub _ _ k1, pairs_prs rel h2 k2 hp⟩, fin (Option.some.inj e).symm⟩
    · cases e
  · split at e
    · rename_i hp
      obtain ⟨a, vs, rfl, h1, h2⟩ := rx.tup_inv
      obtain ⟨b, ws, rfl, k1, k2⟩ := ry.tup_inv
      exact .inr ⟨⟨a, b, vs, ws, rfl, rfl, Evl.ex_t rel.sub h1, Evl.ex_t rel.sub k1, pairs_prs rel h2 k2 hp⟩, fin (Option.some.inj e).symm⟩
    · cases e
  · cases e
end
section
variable {M : Mo} {k : Nat} {W : WX} {N : List Str} {sc : Sc} {a b : Expr} {fa fb : EE} {pos : Pos}
theorem de_eqX {tbl : List (Str × FF)} {j : Nat} (ht : ∀ c ff, (c, ff) ∈ tbl → HasE M c j ff) (hj : j + 1 ≤ k) (ha : DE M k W N sc a fa) (hb : DE M k W N sc b fb) (hm : behindInMarks .Eq b = false := by rfl) : DE M k W N sc (.Compare a [.Eq] [b] pos) (eOE tbl false (eqX tbl) fa fb) := by
  obtain ⟨ta, pa, sa⟩ := ha
  obtain ⟨tb, pb, sb⟩ := hb
  exact ⟨_, fun X c => pe_cmpS (ops_eq (.inl ⟨rfl, rfl⟩) ht hj c ((cm_eq.op X c.eK (room_hu c.rm)).or (op_eqX ht hj c))) (pa X c) (pb X c) hm, se_OE (cm_eq.d.or d_eqX) sa sb⟩
end
end DS
namespace DS
open PySem PySem.Spec PyProof.Rows L2
section
theorem Prs.len {D : Eqv} {xs ys : List V} {H : Hp} (h : Prs D xs ys H) : xs.length = ys.length := h.1
variable {M : Mo} {tbl : List (Str × FF)}
variable {k : Nat} {W : WX} {N : List Str} {sc : Sc} {a b : Expr} {fa fb : EE} {pos : Pos}
end
end DS
namespace DS
open PySem PySem.Spec PyProof.Rows L2
end DS
namespace DS
open PySem PySem.Spec PyProof.Rows L2
def SqK (K : PySem.W.Frag) : Bool → Hp → Addr → List V → Prop
  | true => SqT K
  | false => SqL K
def ItIx : Bool → Heap → Addr → Addr → Nat → Prop
  | true => fun h i a n => h.IsTupleIter i a n
  | false => fun h i a n => h.IsListIter i a n
def IsSq : Bool → Heap → Addr → Array Value → Prop
  | true => fun h a xs => h.IsTuple a xs
  | false => fun h a xs => h.IsList a xs
section
variable {prog : Program} {w : World} {A : Around}
theorem itIx_at {t : Bool} {h h' : Heap} {i a : Addr} {n : Nat} (st : ItIx t h i a n) (k : ∀ o, h.get? i = some o → h'.get? i = some o) : ItIx t h' i a n := by
  cases t with
  | true => exact Heap.IsTupleIter.at st k
  | false => exact Heap.IsListIter.at st k
end
end DS
namespace DS
open PySem PySem.Spec PyProof.Rows L2
/-- one parameter p and no other name of its own -/
structure LamP (sc scope : Scope) (p : Str) : Prop where
  kind : scope.kind = .function
  co : scope.isCoroutine = false
  gen : scope.isGenerator = false
  par : scope.names.lookup p = some .local
  cel : ∀ y ∈ scope.names, y.2 ≠ .cell
  own : ∀ y ∈ scope.names, y.2 = .local → y.1 = p
  free : ∀ y ∈ scope.names, y.2 = .free → sc.names.lookup y.1 = some .cell ∨ sc.names.lookup y.1 = some .free
theorem LamP.has {X : Cx} {scope : Scope} {p : Str} (L : LamP X.env.scope scope p) (ok : X.Ok) : ∀ y ∈ scope.names, y.2 = .free → ∃ c, X.env.cells.lookup y.1 = some c := fun y hy e => by
  rcases L.free y hy e with k | k
  · exact ok.has _ (.inl k)
  · exact ok.has _ (.inr k)
end DS
namespace DS
open PySem PySem.Spec PyProof.Rows L2
end DS
namespace DS
open PySem PySem.Spec PyProof.Rows L2
section
variable {M : Mo} {k : Nat} {W : WX} {N : List Str} {sc : Sc} {e fe : Expr} {es : List Expr} {fo : EE} {fs : EA} {pos : Pos}
/-- objects of the class c may be called -/
def HasCO (M : Mo) (c : Str) (j n : Nat) (ff : FF) : Prop := ∃ C g, M.mg c = some (.ref C) ∧ StX.CallO M.K C g ∧ FnR M.P M.w M.K M.mg M.base (L2.CX M.P M.w) j g (spD M.G n ff)
def tCo (M : Mo) (tbl : List (Str × FF)) (n : Nat) (E : L2.St → XK) (ta : TE) (t : TA) : TE := fun σ H Q => ta σ H fun x H1 => ∃ a, x = V.ref a ∧ t σ H1 fun ws H2 => ∃ c ff C dx vs, (c, ff) ∈ tbl ∧ M.mg c = some (.ref C) ∧ SlX.Slt H2 a C dx vs ∧
  spD M.G n ff (x :: ws) H2 Q (E σ)
theorem se_co {tbl : List (Str × FF)} {n : Nat} {E : L2.St → XK} {to : TE} {ta : TA} (ho : SE M.G E to fo) (ha : SA M.G E ta fs) : SE M.G E (tCo M tbl n E to ta) (eMe tbl n fo fs) := by
  intro w sv sd st Q rel sl h
  refine ho w sv sd st _ rel sl ((Post.bind h).imp ?_)
  rintro x _ ⟨w1, dx, st1, rfl, s1, r1, rx, h1⟩
  have h1 := h1.step anE s1
  cases dx with
  | obj c os =>
    replace h1 : Post M.G (RE M.G) w1 (match tget tbl c with
      | some ff => (fs sd st1).bind fun ds st2 => callD n ff st2 (.obj c os :: ds)
      | none => .stk) Q (E sv) := h1
    cases q : tget tbl c with
    | none => rw [q] at h1; exact h1.elim
    | some ff =>
      rw [q] at h1
      obtain ⟨a, C, dx, vs, rfl, m1, m2, m3, m4⟩ := obj_rep r1 rx
      refine ⟨a, rfl, ?_⟩
      refine ha w1 sv sd st1 _ r1 (sl.step s1) ((Post.bind h1).imp ?_)
      rintro ws _ ⟨w2, ds, st2, rfl, s2, r2, rs, h2⟩
      obtain ⟨a', C', dx', vs', ea, n1, n2, n3, n4⟩ := obj_rep r2 (Rep.step s2 rx)
      cases ea
      rw [m1] at n1
      cases n1
      exact ⟨c, ff, C, dx', vs', tget_mem q, m1, n3, callD_ok r2 (Reps.cons (Rep.step s2 rx) rs) (h2.step anE s2)⟩
  | _ => exact h1.elim
/-- f(e, ..), f an object -/
theorem de_callO {tbl : List (Str × FF)} {j n : Nat} (ht : ∀ c ff, (c, ff) ∈ tbl → HasCO M c j n ff) (hj : j ≤ k) (ho : DE M k W N sc fe fo) (ha : DA M k W N sc (e :: es) fs)
    (hs : ∀ env : Env, starEach (e :: es) env = (false, eval e env) :: starEach es env := by intro _; rfl) (hp : ∀ env : Env, (backTo pos (starEach es env)).any (·.1) = false := by intro _; rfl)
    (hc : ∀ X : Cx, eval (.Call fe (e :: es) [] pos) X.env = (do callWith pos (← eval fe X.env) [] (backTo pos (starEach (e :: es) X.env)) (backToKw pos (keywordEach [] X.env))) := by intro _; rfl) : DE M k W N sc (.Call fe (e :: es) [] pos) (eMe tbl n fo fs) := by
  obtain ⟨to, po, so⟩ := ho
  obtain ⟨ta, pa, sa⟩ := ha
  refine ⟨tCo M tbl n (EW W) to ta, fun X c => ⟨fun pins s σ H Q I h => ?_⟩, se_co so sa⟩
  have po := po X c
  have pa := pa X c
  have hc := hc X
  have hs := hs X.env
  have hp := hp X.env
  obtain ⟨eP, ew, eK, em, eb, eN, eS, ecalm, rm, nd, fn, pass, hla, hgd, hge⟩ := c
  refine Call_ (thn (po.run pins s σ H _ I h) fun u s1 ⟨x, H1, I1, rx, a, ex, q⟩ => ?_) hc
  subst ex
  obtain rfl : u = Value.ref a := rx
  refine StX.callO_with (thn (pa.run pos pins s1 σ H1 _ I1 q) fun us s2 ⟨ws, H2, I2, r, c, ff, C, dx, vs, hm, hC, hsl, q2⟩ => ?_) hs hp
  obtain ⟨C', g, hC', co, F⟩ := ht c ff hm
  rw [hC] at hC'
  cases hC'
  obtain ⟨sl, od, _, J, _⟩ := SlX.slt_inst I2 hsl
  refine ⟨⟨C, _, _, J, rfl⟩, ?_⟩
  cases X
  subst eP ew eK em eb
  refine wpAny_call (PySem.W.kco_code I2.kIn J rfl co.at_ co.fn co.fi ?_)
  refine codeAny_mono (F _ _ s2 H2 (.ref a :: us) (.ref a :: ws) Q _ (rm.mono hj) I2.env0 (.cons rfl r) q2) fun res s' hq => ?_
  rcases res with e | fl
  · exact (pass σ) pins H2 s2 e s' I2 hq
  · cases fl with
    | ret u => exact I2.after hq
    | _ => exact False.elim hq
end
def callK (c : Str) : Bk := fun K => unB K (He.ga K c) "__call__" (He.ma K (He.ga K c) "__call__") && PySem.W.fnIn K (He.ma K (He.ga K c) "__call__")
theorem hasCO_of {M : Mo} {c : Str} {j j' n : Nat} {ff : FF} (hm : M.mg c = some (.ref (He.ga M.K c))) (hk : callK c M.K = true) (F : FnA M j (He.ma M.K (He.ga M.K c) "__call__") n ff) (hj : j ≤ j') : HasCO M c j' n ff := by
  obtain ⟨h0, h⟩ := He.ba hk
  obtain ⟨h1, h2⟩ := unB_ok h0
  exact ⟨_, _, hm, ⟨h1, h2, h⟩, FnR.mono F hj⟩
end DS
namespace DS
open PySem PySem.Spec PyProof.Rows L2
end DS
namespace DS
open PySem PySem.Spec PyProof.Rows L2
end DS
namespace DS
open PySem PySem.Spec PyProof.Rows L2
end DS
namespace DS
open PySem PySem.Spec PyProof.Rows L2
end DS
namespace DS
open PySem PySem.Spec PyProof.Rows L2
structure Col where
  t : Bool
  i : Addr
  a : Addr
  xs : Array Value
def ColOk (c : Col) (k : Nat) (h : Heap) : Prop := ItIx c.t h c.i c.a k ∧ IsSq c.t h c.a c.xs
theorem isSq_at {t : Bool} {h h' : Heap} {a : Addr} {xs : Array Value} (st : IsSq t h a xs) (k : ∀ o, h.get? a = some o → h'.get? a = some o) : IsSq t h' a xs := by
  cases t with
  | true => exact Heap.IsTuple.at st k
  | false => exact Heap.IsList.at st k
theorem ColOk.keep {c : Col} {k : Nat} {h h' : Heap} (x : ColOk c k h) (ki : ∀ o, h.get? c.i = some o → h'.get? c.i = some o) (ka : ∀ o, h.get? c.a = some o → h'.get? c.a = some o) : ColOk c k h' := ⟨itIx_at x.1 ki, isSq_at x.2 ka⟩
/-- a row: tuple or list, where it stands, its iterator -/
structure Row where
  t : Bool
  a : Addr
  i : Addr
abbrev Col.row (c : Col) : Row := ⟨c.t, c.a, c.i⟩
end DS
namespace DS
open PySem PySem.Spec PyProof.Rows L2
structure RowsRep (G : Md) (w : Wd) (rs : List (Bool × Addr)) (yss : List (List D)) : Prop where
  len : rs.length = yss.length
  at_ : ∀ (j : Nat) r ys, rs[j]? = some r → yss[j]? = some ys → ∃ vs, (∀ w', Step w w' → Evl.Ex w'.I w'.H → SqK G.K r.1 w'.H r.2 vs) ∧ Reps G w.I w.ph vs ys
theorem RowsRep.tail {G : Md} {w : Wd} {r : Bool × Addr} {rs : List (Bool × Addr)} {ys : List D} {yss : List (List D)} (h : RowsRep G w (r :: rs) (ys :: yss)) : RowsRep G w rs yss :=
  ⟨by have := h.len; simpa using this, fun j q zs h1 h2 => h.at_ (j + 1) q zs (by simpa using h1) (by simpa using h2)⟩
end DS
namespace DS
open PySem PySem.Spec PyProof.Rows L2
section
variable {M : Mo}
def rEq0M (K : PySem.W.Frag) : R2 := fun x y H Q => ∃ a b xs, x = .ref a ∧ y = .ref b ∧ SqL K H a xs ∧ SqL K H b [] ∧ Q (.bl xs.isEmpty) H
theorem op_eq0M {X : Cx} (hu : X.A.units + 64 < cLine) : OpR X (compareOp .Eq) (rEq0M X.K) := by
  intro pins s σ H x y v u Q I rx ry h
  obtain ⟨a, b, xs, rfl, rfl, h1, h2, q⟩ := h
  cases rx
  cases ry
  obtain ⟨its, v1, t1, _⟩ := I.list h1
  obtain ⟨its2, v2, t2, _⟩ := I.list h2
  cases v2
  show wpAny _ _ (richCompare .Eq (.ref a) (.ref b)) _ _ _
  cases v1 with
  | nil => exact PySem.SeqAt.RcAt.lists (e := fun _ => true) t1.isList t2.isList rfl (by omega) (fun j h1 _ => absurd h1 (by simp)) _ _ _ _ ⟨.bl true, H, I, rfl, q⟩
  | cons r rr => exact PySem.SeqAt.RcAt.lists_lengths t1.isList t2.isList (by simp) (by omega) _ _ _ _ ⟨.bl false, H, I, rfl, q⟩
def eq0M : Sto → D → D → Option D := fun st x y => (lstS st x).bind fun xs => (lstS st y).bind fun ys => if ys.isEmpty = true then some (.bl xs.isEmpty) else none
theorem d_eq0M : OpD M.G (rEq0M M.K) eq0M := by
  intro w st x y dx dy d Q rel rx ry e q
  unfold eq0M at e
  cases q1 : lstS st dx with
  | none => rw [q1] at e; cases e
  | some xs =>
    cases q2 : lstS st dy with
    | none => rw [q1, q2] at e; cases e
    | some ys =>
      rw [q1, q2] at e
      replace e : (if ys.isEmpty = true then some (D.bl xs.isEmpty) else none) = some d := e
      split at e
      case isFalse => cases e
      rename_i hy
      cases e
      obtain ⟨a, vs, rfl, h1, h2⟩ := lstS_rep rel rx q1
      obtain ⟨b, ws, rfl, k1, k2⟩ := lstS_rep rel ry q2
      rw [List.isEmpty_iff.mp hy] at k2
      have k3 := k2.inv_nil'
      subst k3
      refine ⟨a, b, vs, rfl, rfl, h1, k1, ?_⟩
      have e : vs.isEmpty = xs.isEmpty := by
        have l := h2.1
        cases vs <;> cases xs <;> first | rfl | (simp at l)
      rw [e]
      exact q w _ (Step.refl w) rel (.bl _)
def rMix (K : PySem.W.Frag) (z : Bool) : R2 := fun x y H Q => ∃ a b xs ys, x = .ref a ∧ y = .ref b ∧ ((SqL K H a xs ∧ SqT K H b ys) ∨ (SqT K H a xs ∧ SqL K H b ys)) ∧ Q (.bl z) H
theorem op_eqMix {X : Cx} (hu : X.A.units + 64 < cLine) : OpR X (compareOp .Eq) (rMix X.K false) := by
  intro pins s σ H x y v u Q I rx ry h
  obtain ⟨a, b, xs, ys, rfl, rfl, h1, q⟩ := h
  cases rx
  cases ry
  show wpAny _ _ (richCompare .Eq (.ref a) (.ref b)) _ _ _
  rcases h1 with ⟨h1, h2⟩ | ⟨h1, h2⟩
  · obtain ⟨its, v1, t1, _⟩ := I.list h1
    obtain ⟨its2, v2, t2, _⟩ := I.tuple h2
    exact PySem.SeqAt.RcAt.list_tuple t1.isList t2 (by omega) _ _ _ _ ⟨.bl false, H, I, rfl, q⟩
  · obtain ⟨its, v1, t1, _⟩ := I.tuple h1
    obtain ⟨its2, v2, t2, _⟩ := I.list h2
    exact PySem.SeqAt.RcAt.tuple_list t1 t2.isList (by omega) _ _ _ _ ⟨.bl false, H, I, rfl, q⟩
theorem op_neMix {X : Cx} (hu : X.A.units + 64 < cLine) : OpR X (compareOp .NotEq) (rMix X.K true) := by
  intro pins s σ H x y v u Q I rx ry h
  obtain ⟨a, b, xs, ys, rfl, rfl, h1, q⟩ := h
  cases rx
  cases ry
  show wpAny _ _ (richCompare .NotEq (.ref a) (.ref b)) _ _ _
  rcases h1 with ⟨h1, h2⟩ | ⟨h1, h2⟩
  · obtain ⟨its, v1, t1, _⟩ := I.list h1
    obtain ⟨its2, v2, t2, _⟩ := I.tuple h2
    exact PySem.SeqAt.RcNeAt.list_tuple t1.isList t2 (by omega) _ _ _ _ ⟨.bl true, H, I, rfl, q⟩
  · obtain ⟨its, v1, t1, _⟩ := I.tuple h1
    obtain ⟨its2, v2, t2, _⟩ := I.list h2
    exact PySem.SeqAt.RcNeAt.tuple_list t1 t2.isList (by omega) _ _ _ _ ⟨.bl true, H, I, rfl, q⟩
def mixD (z : Bool) : Sto → D → D → Option D := fun st x y => match x, y with
  | .tup _, .tup _ => none
  | .tup _, y => (lstS st y).map fun _ => .bl z
  | x, .tup _ => (lstS st x).map fun _ => .bl z
  | _, _ => none
theorem d_mix {z : Bool} : OpD M.G (rMix M.K z) (mixD z) := by
  intro w st x y dx dy d Q rel rx ry e q
  unfold mixD at e
  split at e
  · cases e
  · rename_i xs _
    obtain ⟨a, vs, rfl, h1, h2⟩ := rx.tup_inv
    cases q2 : lstS st dy with
    | none => rw [q2] at e; cases e
    | some ys =>
      rw [q2] at e
      cases e
      obtain ⟨b, ws, rfl, k1, k2⟩ := lstS_rep rel ry q2
      exact ⟨a, b, vs, ws, rfl, rfl, .inr ⟨Evl.ex_t rel.sub h1, k1⟩, q w _ (Step.refl w) rel (.bl _)⟩
  · rename_i ys _
    obtain ⟨b, ws, rfl, k1, k2⟩ := ry.tup_inv
    cases q2 : lstS st dx with
    | none => rw [q2] at e; cases e
    | some xs =>
      rw [q2] at e
      cases e
      obtain ⟨a, vs, rfl, h1, h2⟩ := lstS_rep rel rx q2
      exact ⟨a, b, vs, ws, rfl, rfl, .inl ⟨h1, Evl.ex_t rel.sub k1⟩, q w _ (Step.refl w) rel (.bl _)⟩
  · cases e
def eqE : Sto → D → D → Option D := fun st x y => (((eqD st x y).or (eq0L st x y)).or (eq0M st x y)).or (mixD false st x y)
theorem cm_eqE : CmpOf M .Eq (fun x y H Q => ((rEqD M.K x y H Q ∨ rEq0 M.K x y H Q) ∨ rEq0M M.K x y H Q) ∨ rMix M.K false x y H Q) eqE := ⟨fun X h u => by rw [← h]; exact (((op_eqD u).or (op_eq0 u)).or (op_eq0M u)).or (op_eqMix u), ((d_eq.or d_eq0).or d_eq0M).or d_mix⟩
def neE : Sto → D → D → Option D := fun st x y => (((neD st x y).or (ne0L st x y)).or (ne0M st x y)).or (mixD true st x y)
theorem cm_neE : CmpOf M .NotEq (fun x y H Q => ((rNeD M.K x y H Q ∨ rNe0 M.K x y H Q) ∨ rNe0M M.K x y H Q) ∨ rMix M.K true x y H Q) neE := ⟨fun X h u => by rw [← h]; exact (((op_neD u).or (op_ne0 u)).or (op_ne0M u)).or (op_neMix u), ((d_ne.or d_ne0).or d_ne0M).or d_mix⟩
end
end DS
namespace DS
open PySem PySem.Spec PyProof.Rows L2
end DS
namespace DS
open PySem PySem.Spec PyProof.Rows L2
end DS
namespace DS
open PySem PySem.Spec PyProof.Rows L2
section
variable {X : Cx}
abbrev cEnv (X : Cx) (s : Shared) (scope : Scope) : Env := compEnvC scope (cellsFrom (s.heap.objs.size + 1) scope.names (cloFrom X.env.cells scope.names [])) s.heap.objs.size X.env
abbrev cBlk (X : Cx) (s : Shared) (H : Hp) (scope : Scope) (fp : List Addr) : Cx := X.blk s H scope (cEnv X s scope) fp
/-- the tests, in the block that began at s -/
def TsAt (X : Cx) (scope : Scope) (vs : List Nat) (ifs : List Expr) (tt : L2.St → TT) : Prop :=
  ∀ (pins : List (Addr × Obj)) (s : Shared) (σ : L2.St) (H : Hp) (fp : List Addr), Inv X pins σ H s → (∀ b ∈ fp, FpOk X pins H b) →
    ∀ (pins' : List (Addr × Obj)) (s' : Shared) (σ' : L2.St) (H' : Hp) (Q : Bool → Hp → Prop), Inv (cBlk X s H scope fp) pins' σ' H' s' → L2.wipe σ' vs = L2.wipe σ vs → tt σ σ' H' Q →
      wpAny (model X.prog X.w) X.A (forIn ifs true fun c r => if r = true then do let ok ← isTrue c (cEnv X s scope) (eval c (cEnv X s scope)); pure (ForInStep.yield ok) else pure (ForInStep.yield r)) (TP (cBlk X s H scope fp) pins' σ' Q) (fun _ _ => False) s'
/-- the def's own state goes on while the block runs -/
theorem back_in {pins pins' : List (Addr × Obj)} {s s' : Shared} {σ σ' : L2.St} {H H' : Hp} {scope : Scope} {fp : List Addr} (I : Inv X pins σ H s) (hf : ∀ b ∈ fp, FpOk X pins H b) (J : Inv (cBlk X s H scope fp) pins' σ' H' s') : Inv X pins σ H' s' :=
  Inv.call' (ch := fp) I J.os J.base J.hok J.bare fun b hb => by
    obtain ⟨_, a2, _, a4, a5, a6⟩ := hf b hb
    exact ⟨a4, a2, a5, a6⟩
theorem pe_lcAt {elt tg iter : Expr} {ifs : List Expr} {scope : Scope} {own : List (Str × Nat)} {pos : Pos} {wi : TI} {g : TG} {tt : L2.St → TT} {te : TE} (calm : X.calm = true) (nd : X.N.Nodup) (hi : PI X tg iter wi) (ok : BlkOk X.N X.env.scope scope own)
    (hg : ∀ (s : Shared) (H : Hp) (fp : List Addr), PG (cBlk X s H scope fp) tg g) (ht : TsAt X scope (own.map (·.2)) ifs tt) (he : ∀ (s : Shared) (H : Hp) (fp : List Addr), PE (cBlk X s H scope fp) elt te) (hs : ∀ x, foldedSetIterable iter X.env x = pure x) :
    PE X (.ListComp elt [⟨tg, iter, ifs, 0⟩] scope pos) (fun σ H Q => tLc wi g (tt σ) te (own.map (·.2)) σ H Q) := by
  refine ⟨fun pins s σ H Q I h => ?_⟩
  have caught : ∀ n ∈ scope.names, n.2 = .free → ∃ c, X.env.cells.lookup n.1 = some c := fun n hn e => (ok.free n hn e).elim (fun z => I.ok.has _ (.inl z)) fun z => I.ok.has _ (.inr z)
  rw [eval_ListComp]
  refine wpAny_comprehension_free (use := none) rfl hs (closure_ok caught) ok.kind (fun n hn e => by rw [ok.uniq n hn, e]) (thn (hi.run pins s σ H _ I h) fun _ _ came => thn came fun _ s1 got => ?_)
  obtain ⟨it, fp, tn, J, H1, rfl, I1, T, t0, fok, q⟩ := got
  refine wpAny_newObj_type (newEnv_comp ?_) (by show 0 ≤ sizeLine; decide)
  -- the list that is made
  obtain ⟨D, eD⟩ : ∃ D, s1.heap.objs.size = D := ⟨_, rfl⟩
  obtain ⟨W, ⟨m0, w0⟩, turn⟩ := q D (I1.hok.fresh (Nat.le_of_eq eD))
  obtain ⟨s2, e2⟩ : ∃ s2 : Shared, ({ s1 with heap := s1.heap.push { cls := .type "list", data := .seq ([] : List Value).toArray } } : Shared) = s2 := ⟨_, rfl⟩
  have hp2 : s2.heap = s1.heap.push { cls := .type "list", data := .seq ([] : List Value).toArray } := by rw [← e2]
  obtain ⟨H2, eH2⟩ : ∃ H2 : Hp, upd H1 D (.lst []) = H2 := ⟨_, rfl⟩
  have I2 : Inv X pins σ H2 s2 := by
    rw [← e2, ← eH2]
    refine I1.laid (t' := s1.toks) (fun _ _ e => Heap.get?_push_of_some _ e) (Nat.le_of_eq eD) ⟨Nat.zero_le _, [], 0, .nil, ?_⟩
    subst eD
    exact Heap.get?_push_size _ rfl
  rw [eH2] at w0
  have below : ∀ b ∈ fp, b < s1.heap.objs.size := fun b hb => let ⟨_, e, _⟩ := T.obj _ _ t0 b hb; Heap.lt_size e
  have fok2 : ∀ b ∈ fp, FpOk X pins H2 b := fun b hb => by
    refine ⟨?_, (fok b hb).2⟩
    rw [← eH2, upd_ne (by rw [← eD]; exact Nat.ne_of_lt (below b hb))]
    exact (fok b hb).1
  have t2 : tn 0 s2.heap := T.keep _ _ _ t0 fun b _ o e => by
    rw [hp2]
    exact Heap.get?_push_of_some _ e
  -- the block
  have I3 := block_start I2 ok nd fun b hb => ⟨fok2 b hb, by rw [hp2, Heap.size_push]; exact Nat.lt_succ_of_lt (below b hb)⟩
  have pg := hg s2 H2 fp
  have pe := he s2 H2 fp
  have pt := ht pins s2 σ H2 fp I2 fok2
  have sub : ∀ {s' : Shared} {σ' : L2.St} {H' : Hp}, Inv (cBlk X s2 H2 scope fp) [] σ' H' s' → (∀ b ∈ fp, H' b = none) → ∀ b ∈ fp, FpOk (cBlk X s2 H2 scope fp) [] H' b := fun K n b hb =>
    ⟨n b hb, (K.ok.exf b hb).1, K.ok.exfs b hb, .inl hb, fun x c e => (K.ok.exf b hb).2 x c e, fun p z => by cases (show p ∈ ([] : List (Addr × Obj)) from z)⟩
  have t3 : tn 0 (pushCells (s2.heap.push { cls := .type "dict", data := .dict #[] }) scope.names) := T.keep _ _ _ t2 fun b _ o e => pushCells_keeps _ _ _ _ (Heap.get?_push_of_some _ e)
  have run : codeAny (model X.prog X.w) X.A (.compLoop (.ListComp elt [⟨tg, iter, ifs, 0⟩] scope pos) 0 (.ref it) (.ref D) (cEnv X s2 scope)) (compPost (model X.prog X.w) X.A X.xe none (EP X pins σ Q) (.ref D) s2.heap.objs.size)
      { s2 with heap := pushCells (s2.heap.push { cls := .type "dict", data := .dict #[] }) scope.names } := by
    refine compLoop_any (fun n z => ∃ i H', Inv (cBlk X s2 H2 scope fp) [] (L2.wipe σ (own.map (·.2))) H' z ∧ tn i z.heap ∧ (∀ b ∈ fp, H' b = none) ∧ W i n H') ?_ m0 ⟨0, H2, I3, t3, fun b hb => (fok2 b hb).1, w0⟩
    rintro n z ⟨i, H', K, tz, nz, wz⟩
    rcases turn i n H' wz with ⟨halt, end_⟩ | ⟨goes, Nx, less, next⟩
    · refine thnF (T.done (cBlk X s2 H2 scope fp) rfl rfl rfl calm i [] z _ H' (fun _ _ => False) K (sub K nz) tz halt) fun r z2 ⟨er, K2⟩ => ?_
      subst er
      have out := back_in I2 fok2 K2
      obtain ⟨m, ns, _⟩ := K2.loc
      refine ⟨m, ns, fun h' sb => ?_⟩
      obtain ⟨f0, f1, f2, f3, f4, f5⟩ := I2.fpOk (b := s2.heap.objs.size) (H' := H') (Nat.le_refl _) K2.free
      exact ⟨.ref D, H', out.turned (t' := z2.toks) (fun b o hb e => (sb.2 b hb).trans e) f0 f1 f3 f4 f5, rfl, end_⟩
    · refine thnF (T.item (cBlk X s2 H2 scope fp) rfl rfl rfl calm i [] z _ H' (fun _ _ => False) K (sub K nz) tz goes) fun r z2 ⟨u, er, more⟩ => ?_
      subst er
      refine thnF more fun _ z3 ⟨x, H3, K3, rx, yl, tz3, nz3⟩ => ?_
      refine thnF (pg.run _ z3 _ H3 x u _ (K3.pinned (sub K3 nz3) (T.obj _ _ tz3)) rx (next x H3 yl)) fun _ z4 ⟨σ4, H4, K4, ew, q4⟩ => ?_
      -- the turn's end
      have fin : ∀ {z' : Shared} {G : Hp}, Inv (cBlk X s2 H2 scope fp) ([] ++ pinsAt fp z3.heap) σ4 G z' → Nx G → ∃ m, m < n ∧ ∃ i H', Inv (cBlk X s2 H2 scope fp) [] (L2.wipe σ (own.map (·.2))) H' z' ∧ tn i z'.heap ∧ (∀ b ∈ fp, H' b = none) ∧ W i m H' := fun {z' G} L nx => by
        obtain ⟨m, lt, wm⟩ := less G nx
        have held : ∀ b ∈ fp, ∀ o, z3.heap.get? b = some o → z'.heap.get? b = some o ∧ G b = none := fun b hb o e => by
          have y := L.pin (b, o) (List.mem_append_right _ (List.mem_append_right _ (mem_pinsAt hb e)))
          exact ⟨y.1, y.2.1⟩
        refine ⟨m, lt, i + 1, G, Inv.weak (Inv.unpinned (pins := []) L) (by rw [← ew, L2.wipe_length]) fun j v e => ?_, T.keep _ _ _ tz3 fun b hb o e => (held b hb o e).1, fun b hb => ?_, wm⟩
        · rw [← ew] at e
          exact (wipe_some e).1
        · obtain ⟨o, e, _⟩ := T.obj _ _ tz3 b hb
          exact (held b hb o e).2
      refine thnF (pt _ z4 σ4 H4 _ K4 ew q4) fun b z5 ⟨H5, K5, q5⟩ => ?_
      cases b with
      | false => exact fin K5 q5
      | true =>
        refine thnF (pe.run _ z5 σ4 H5 _ K5 q5) fun y z6 ⟨yv, H6, K6, ry, acc, hD, lt, nx⟩ => ?_
        exact app_ok (X := cBlk X s2 H2 scope fp) K6 hD lt ry fun z7 K7 => fin K7 nx
  have go : codeAny (model X.prog X.w) X.A (.compStart (.ListComp elt [⟨tg, iter, ifs, 0⟩] scope pos) 0 (.ref it) (.ref D) (cEnv X s2 scope)) (compPost (model X.prog X.w) X.A X.xe none (EP X pins σ Q) (.ref D) s2.heap.objs.size)
      { s2 with heap := pushCells (s2.heap.push { cls := .type "dict", data := .dict #[] }) scope.names } := codeAny_compStart_list run (T.self X.A 0 _ _ _ t3 run)
  subst e2 eD
  exact go
end
end DS
namespace DS
open PySem PySem.Spec PyProof.Rows L2
mutual
def D.noF : D → Bool
  | .lam _ => false
  | .tup xs => D.noFs xs
  | .lst xs => D.noFs xs
  | .scr xs => D.noFs xs
  | .dic kvs => D.noFk kvs
  | .obj _ fs => D.noFk fs
  | _ => true
def D.noFs : List D → Bool
  | [] => true
  | x :: xs => x.noF && D.noFs xs
def D.noFk : List (Str × D) → Bool
  | [] => true
  | x :: xs => x.2.noF && D.noFk xs
end
theorem noFs_get {ds : List D} {i : Nat} {d : D} (h : D.noFs ds = true) (e : ds[i]? = some d) : d.noF = true := by
  induction ds generalizing i with
  | nil => simp at e
  | cons x xs ih =>
    have h : (x.noF && D.noFs xs) = true := h
    rw [Bool.and_eq_true] at h
    cases i with
    | zero => simp at e; rw [← e]; exact h.1
    | succ i => exact ih h.2 (by simpa using e)
theorem noFk_get {ds : List (Str × D)} {i : Nat} {d : Str × D} (h : D.noFk ds = true) (e : ds[i]? = some d) : d.2.noF = true := by
  induction ds generalizing i with
  | nil => simp at e
  | cons x xs ih =>
    have h : (x.2.noF && D.noFk xs) = true := h
    rw [Bool.and_eq_true] at h
    cases i with
    | zero => simp at e; rw [← e]; exact h.1
    | succ i => exact ih h.2 (by simpa using e)
def cellF : Cell → Bool
  | .lst xs => D.noFs xs
  | .dead => true
  | .ob _ _ _ => false
def stoF (st : Sto) : Bool := st.all cellF
def cleanF (sd : Sl) : Sl := sd.map fun o => match o with
  | some d => if d.noF then some d else none
  | none => none
abbrev LTab := Nat → Option (Addr × Addr × Str)
abbrev Mo.GL (M : Mo) (L : LTab) : Md := ⟨M.K, M.mg, M.T, L⟩
def LH (L : LTab) (H : Hp) : Prop := ∀ j f c q, L j = some (f, c, q) → H c = some (LamX.CodeO c q)
section
variable {M : Mo} {L : LTab} {I : Hp} {ph : List Addr} {v : V} {d : D} {vs : List V} {ds : List D} {w w' : Wd} {st : Sto} {sv : L2.St} {sd : Sl}
theorem Rep.toL (h : Rep M.G I ph v d) : Rep (M.GL L) I ph v d := by
  induction h with
  | non => exact .non
  | bl b => exact .bl b
  | int i => exact .int i
  | str s => exact .str s
  | ty m => exact .ty m
  | glo h => exact .glo h
  | hnd h => exact .hnd h
  | tup h1 h2 _ ih => exact .tup h1 h2 ih
  | lst h1 h2 _ ih => exact .lst h1 h2 ih
  | scr h1 h2 _ ih => exact .scr h1 h2 ih
  | dic h1 h2 h3 _ ih => exact .dic h1 h2 h3 ih
  | obj h1 h2 h3 h4 h5 _ ih => exact .obj h1 h2 h3 h4 h5 ih
  | lam h => cases h
theorem Rep.ofL (h : Rep (M.GL L) I ph v d) (n : d.noF = true) : Rep M.G I ph v d := by
  induction h with
  | non => exact .non
  | bl b => exact .bl b
  | int i => exact .int i
  | str s => exact .str s
  | ty m => exact .ty m
  | glo h => exact .glo h
  | hnd h => exact .hnd h
  | tup h1 h2 _ ih => exact .tup h1 h2 fun i v d a b => ih i v d a b (noFs_get n b)
  | lst h1 h2 _ ih => exact .lst h1 h2 fun i v d a b => ih i v d a b (noFs_get n b)
  | scr h1 h2 _ ih => exact .scr h1 h2 fun i v d a b => ih i v d a b (noFs_get n b)
  | dic h1 h2 h3 _ ih => exact .dic h1 h2 h3 fun i p q a b => ih i p q a b (noFk_get n b)
  | obj h1 h2 h3 h4 h5 _ ih => exact .obj h1 h2 h3 h4 h5 fun i v q a b => ih i v q a b (noFk_get n b)
  | lam h => cases n
theorem Reps.toL (h : Reps M.G I ph vs ds) : Reps (M.GL L) I ph vs ds := ⟨h.1, fun i v d a b => (h.2 i v d a b).toL⟩
theorem Reps.ofL (h : Reps (M.GL L) I ph vs ds) (n : D.noFs ds = true) : Reps M.G I ph vs ds := ⟨h.1, fun i v d a b => (h.2 i v d a b).ofL (noFs_get n b)⟩
theorem Rel.toL (r : Rel M.G w st) (hl : LH L w.H) : Rel (M.GL L) w st := by
  refine ⟨r.sub, r.len, r.nd, fun i a c hi hc => ?_, ⟨r.tab.at_, r.tab.no, hl⟩⟩
  have k := r.cel i a c hi hc
  cases c with
  | lst xs =>
    obtain ⟨e0, us, e, z⟩ := k
    exact ⟨e0, us, e, z.toL⟩
  | dead => exact k
  | ob j c fs =>
    obtain ⟨h1, h2, C, dx, vs, h3, h4, h5, h6, h7, h8, h9⟩ := k
    refine ⟨h1, h2, C, dx, vs, h3, h4, h5, h6, h7, h8, fun i q d e1 e2 => ?_⟩
    obtain ⟨v, e3, r⟩ := h9 i q d e1 e2
    exact ⟨v, e3, r.toL⟩
theorem Rel.ofL (r : Rel (M.GL L) w st) (n : stoF st = true) : Rel M.G w st := by
  refine ⟨r.sub, r.len, r.nd, fun i a c hi hc => ?_, ⟨r.tab.at_, r.tab.no, fun _ _ _ _ z => nomatch z⟩⟩
  have k := r.cel i a c hi hc
  have m : cellF c = true := List.all_eq_true.mp n c (List.mem_of_getElem? hc)
  cases c with
  | lst xs =>
    obtain ⟨e0, us, e, z⟩ := k
    exact ⟨e0, us, e, z.ofL m⟩
  | dead => exact k
  | ob j c fs => cases m
theorem Slo.toL (h : Slo M.G w sv sd) : Slo (M.GL L) w sv sd := ⟨h.1, fun i d e => by
  obtain ⟨v, a, b⟩ := h.2 i d e
  exact ⟨v, a, b.toL⟩⟩
theorem Slo.ofL (h : Slo (M.GL L) w sv sd) : Slo M.G w sv (cleanF sd) := by
  refine ⟨by unfold cleanF; rw [List.length_map]; exact h.1, fun i d e => ?_⟩
  unfold cleanF at e
  rw [List.getElem?_map] at e
  cases q : sd[i]? with
  | none => rw [q] at e; cases e
  | some o =>
    rw [q] at e
    cases o with
    | none => cases e
    | some d' =>
      have e : some (if d'.noF = true then some d' else none) = some (some d) := e
      by_cases hn : d'.noF = true
      · rw [if_pos hn] at e
        cases e
        obtain ⟨v, a, b⟩ := h.2 i d q
        exact ⟨v, a, b.ofL hn⟩
      · rw [if_neg hn] at e
        cases e
theorem LH.step (h : LH L w.H) (s : Step w w') (k : ∀ j f c q, L j = some (f, c, q) → c ∉ w.ph) : LH L w'.H := fun j f c q e => s.keep c _ (h j f c q e) (k j f c q e) codeO_nt
theorem Rel.notCode (r : Rel (M.GL L) w st) : ∀ j f c q, L j = some (f, c, q) → c ∉ w.ph := fun j f c q e z => (r.kinds z (r.tab.lam j f c q e)).2 _ _ rfl
end
section
variable {X : Cx} {pins : List (Addr × Obj)} {σ : L2.St} {H : Hp} {s : Shared}
/-- m(f) in the def's own state -/
theorem lam_called {TT : (XK → Hp → VK → Prop) → Hp → VK → Prop} {x a : Str} {g f c' : Addr} {k : Nat} {pg : Arguments} {bg : List Stmt} {sg : Scope} {dV kV doc pm cdv ct oc pm' ctv : Value} {an od : Option Addr} {osl : Array (Option Value)} {Ng : List Str}
    {params : Arguments} {body : Expr} {scope : Scope} {t : XK → TE} {Q : VK} (I : Inv X pins σ H s) (lk : X.K.lookup g = some ⟨oc, od, .func (PySem.W.fnOf x x pg bg sg dV kV doc pm an cdv ct), osl⟩) (hcg : PySem.W.codeIn X.K cdv x = true)
    (hb : L2.Binds X.K (PySem.W.fnOf x x pg bg sg dV kV doc pm an cdv ct) [a] []) (Sg : FnScope Ng [a] sg) (hNg : Ng[0]? = some a) (hva : Vis sg a) (hG : LamX.GivesTo X Ng x sg g cdv bg a (X.env.qual ++ "<lambda>") TT) (hr : Room (k + 2) X.A) (L : LamX.LamS X.env.scope scope)
    (hbind : ∀ (q : Str) (cl : List (Str × Addr)) (pm cv ctv : Value), bindArgs (PySem.W.kla_fn "<lambda>" q params body scope cl pm cv ctv) ⟨[], []⟩ = pure [])
    (hbody : ∀ (A : Around) (outer : List Env) (s : Shared) (H : Hp) (E : XK), Room k (A.deeper (LamX.lamEnv X scope s.heap.objs.size f c')) → PE (LamX.lamCx X A outer s H E scope f c') body (t E))
    (hf : (f, PySem.W.kla_obj "<lambda>" (X.env.qual ++ "<lambda>") params body scope (cloFrom X.env.cells scope.names []) pm' c' ctv) ∈ X.pn ++ pins) (hco : H c' = some (LamX.CodeO c' (X.env.qual ++ "<lambda>"))) (h : TT (fun E H' Q' => t E σ H' Q') H Q)
    (hd : (a == ("__debug__" : Str)) = false) (hcd : (a == ("__classdict__" : Str)) = false) :
    codeAny (model X.prog X.w) X.A (.call (.ref g) ⟨[.ref f], []⟩) (CR C8.CX0 X.stack X.prog X.w H s Q C8.E0) s := by
  obtain ⟨f1, f2, f3, f4, _⟩ := I.pin _ hf
  have nfr : f ∉ frs X.stack := fun z => (List.mem_cons.mp (I.stkSub f z)).elim f3 f4
  refine LamX.run_ofS (N := Ng) (ps := [a]) (us := [.ref f]) (vs := [.ref f]) lk hcg Sg hr I.env0 (hb s [.ref f] I.kIn rfl) (.cons rfl .nil) rfl fun deep => ?_
  obtain ⟨t', p', q'⟩ := hG f c' s H Q (fun E H' Q' => t E σ H' Q') (fun W pn xe E p1 p2 tk hW => LamX.pe_act (i := 0) I L f1 f2 nfr (hbind _ _ _ _ _) tk hW deep (fun A outer s H room => hbody A outer s H E room) hNg hva hd hcd) hco h
  exact ⟨t', p'.nox, q'⟩
/-- what is known of the lambda number j -/
structure LamAt (X : Cx) (k : Nat) (t : XK → TE) (f c : Addr) (q : Str) : Prop where
  nm : q = X.env.qual ++ "<lambda>"
  at_ : ∃ (params : Arguments) (body : Expr) (scope : Scope) (pm ctv : Value), LamX.LamS X.env.scope scope ∧ (f, PySem.W.kla_obj "<lambda>" q params body scope (cloFrom X.env.cells scope.names []) pm c ctv) ∈ X.pn ∧
    (∀ (q : Str) (cl : List (Str × Addr)) (pm cv ctv : Value), bindArgs (PySem.W.kla_fn "<lambda>" q params body scope cl pm cv ctv) ⟨[], []⟩ = pure []) ∧
    ∀ (A : Around) (outer : List Env) (s : Shared) (H : Hp) (E : XK), Room k (A.deeper (LamX.lamEnv X scope s.heap.objs.size f c)) → PE (LamX.lamCx X A outer s H E scope f c) body (t E)
def tMv (L : LTab) (TT : (XK → Hp → VK → Prop) → Hp → VK → Prop) (t : Nat → XK → TE) (jc : Nat) (vs : List Nat) : TE := fun σ H Q => ∃ j f c q, σ[jc]? = some (some (.ref f)) ∧ L j = some (f, c, q) ∧ H c = some (LamX.CodeO c q) ∧ TT (fun E H' Q' => t j E (L2.wipe σ vs) H' Q') H Q
theorem pe_mv {L : LTab} {TT : (XK → Hp → VK → Prop) → Hp → VK → Prop} {x a y : Str} {g : Addr} {k jc : Nat} {pg : Arguments} {bg : List Stmt} {sg bs : Scope} {dV kV doc pm cdv ct oc : Value} {an od : Option Addr} {osl : Array (Option Value)} {Ng : List Str} {t : Nat → XK → TE} {vs : List Nat} {fp : List Addr} {p py pos : Pos}
    (I : Inv X pins σ H s) (hfp : ∀ b ∈ fp, FpOk X pins H b) (hL : ∀ j f c q, L j = some (f, c, q) → LamAt X k (t j) f c q)
    (hg : Gl (cBlk X s H bs fp) x) (hm : X.mg x = some (.ref g)) (hk : PySem.W.keepIn X.K (.ref g) = true)
    (lk : X.K.lookup g = some ⟨oc, od, .func (PySem.W.fnOf x x pg bg sg dV kV doc pm an cdv ct), osl⟩) (hcg : PySem.W.codeIn X.K cdv x = true)
    (hb : L2.Binds X.K (PySem.W.fnOf x x pg bg sg dV kV doc pm an cdv ct) [a] []) (Sg : FnScope Ng [a] sg) (hNg : Ng[0]? = some a) (hva : Vis sg a) (hG : LamX.GivesTo X Ng x sg g cdv bg a (X.env.qual ++ "<lambda>") TT) (hr : Room (k + 2) X.A)
    (hy : PA (cBlk X s H bs fp) [.Name y py] (tCons (tVar jc) tNil)) (hs : starEach [.Name y py] (cEnv X s bs) = (false, eval (.Name y py) (cEnv X s bs)) :: starEach [] (cEnv X s bs)) (hx : (x == ("__debug__" : Str)) = false) (hd : (a == ("__debug__" : Str)) = false) (hcd : (a == ("__classdict__" : Str)) = false) :
    PE (cBlk X s H bs fp) (.Call (.Name x p) [.Name y py] [] pos) (fun σ' H' Q => L2.wipe σ' vs = L2.wipe σ vs ∧ tMv L TT t jc vs σ' H' Q) := by
  refine ⟨fun pins' s' σ' H' Q J h => ?_⟩
  obtain ⟨ew, j, f, c, q, h1, h2, h3, h4⟩ := h
  refine wpAny_Call_Name_kw (ld_glob J hg hm ?_ hx)
  refine PySem.W.callWith_K (h₀ := X.base) J.ok.mod.kin hk (thn (hy.run pos pins' s' σ' H' (fun us H2 => us = [.ref f] ∧ H2 = H') J ⟨_, h1, rfl, rfl⟩) fun us s1 ⟨ws, H1, J1, r, e1, e2⟩ => ?_) hs (by rfl)
  subst e1 e2
  obtain ⟨u, rfl, ru⟩ := r.one
  obtain rfl : u = Value.ref f := ru
  refine ⟨J1.kIn, ?_⟩
  have I1 : Inv X pins (L2.wipe σ' vs) H1 s1 := by
    rw [ew]
    exact Inv.weak (back_in I hfp J1) (L2.wipe_length σ vs) fun i v e => (wipe_some e).1
  obtain ⟨eq, params, body, scope, pm', ctv, LS, mem, hbind, hbody⟩ := hL j f c q h2
  subst eq
  have rc := lam_called (Q := Q) I1 lk hcg hb Sg hNg hva hG hr LS hbind hbody (List.mem_append_left _ mem) h3 h4 hd hcd
  refine wpAny_call (codeAny_mono rc fun r s2 hq => ?_)
  cases r with
  | error e => exact (show False from hq).elim
  | ok fl =>
    cases fl with
    | ret u => exact J1.after hq
    | next => exact False.elim hq
    | brk => exact False.elim hq
    | cont => exact False.elim hq
end
def eMv (jc : Nat) (vs : List Nat) (tab : STab) (hs : List Hnd) (dflt : D) (fb : List EE) : EE := fun sd st => match sd[jc]? with
  | some (some (.lam j)) => (match fb[j]? with
    | some f => if stoF st = true then (metD tab hs dflt (f (cleanF (wipeD sd vs)) st)).noex else .stk
    | none => .stk)
  | _ => .stk
section
variable {M : Mo}
theorem se_mv {L : LTab} {E : L2.St → XK} {n jc : Nat} {vs : List Nat} {l : List Clz} {tr : TE} {t : Nat → XK → TE} {tab : STab} {hs : List Hnd} {dflt : D} {fb : List EE} {fr : EE}
    (hw : HdsW M (List.replicate n "") tab hs l) (sr : SE M.G (EW WF) tr fr) (hdf : ∀ sd st, fr sd st = .ok dflt st) (ht : ∀ j f E, fb[j]? = some f → SE M.G (EW fun cls d _ H => E cls d H) (t j E) f) : SE (M.GL L) E (tMv L (TMet n M.K l tr) t jc vs) (eMv jc vs tab hs dflt fb) := by
  intro w sv sd st Q rel sl h
  unfold eMv at h
  split at h
  case h_2 => exact h.elim
  rename_i j ej
  obtain ⟨v, e1, rv⟩ := sl.2 jc _ ej
  cases rv with
  | @lam f c q _ hL =>
    have h := (h : Post (M.GL L) (RE (M.GL L)) w (match fb[j]? with
      | some f => if stoF st = true then (metD tab hs dflt (f (cleanF (wipeD sd vs)) st)).noex else .stk
      | none => .stk) Q (E sv))
    cases eb : fb[j]? with
    | none => rw [eb] at h; exact h.elim
    | some fj =>
      rw [eb] at h
      replace h : Post (M.GL L) (RE (M.GL L)) w (if stoF st = true then (metD tab hs dflt (fj (cleanF (wipeD sd vs)) st)).noex else .stk) Q (E sv) := h
      by_cases hst : stoF st = true
      case neg => rw [if_neg hst] at h; exact h.elim
      rw [if_pos hst] at h
      refine ⟨j, f, c, q, e1, hL, rel.tab.lam j f c q hL, ?_⟩
      have nc := rel.notCode
      have lh : LH L w.H := rel.tab.lam
      -- the end, told without lambdas
      have h2 : Post M.G (RE M.G) w (metD tab hs dflt (fj (cleanF (wipeD sd vs)) st)) Q (E sv) := by
        cases em : metD tab hs dflt (fj (cleanF (wipeD sd vs)) st) with
        | stk => rw [em] at h; exact h.elim
        | ex e st' => rw [em] at h; exact h.elim
        | ok y st' =>
          rw [em] at h
          exact fun w' v s r rv => h w' v s (r.toL (lh.step s nc)) (Rep.toL rv)
      have r0 : Rel M.G w st := rel.ofL hst
      have sl0 : Slo M.G w (L2.wipe sv vs) (cleanF (wipeD sd vs)) := (sl.wipe vs).ofL
      intro σ0
      have key : ∀ (w' : Wd) (st' : Sto), Step w w' → Rel M.G w' st' → Post M.G (RE M.G) w (Res.ok dflt st') Q (E sv) → tr σ0 w'.H Q := fun w' st' s r q => by
        have sl1 : Slo M.G w' σ0 (List.replicate σ0.length none) := ⟨by simp, fun i d z => by
          rw [List.getElem?_replicate] at z
          split at z <;> cases z⟩
        refine sr w' σ0 (List.replicate σ0.length none) st' Q r sl1 ?_
        rw [hdf]
        exact fun w2 v s2 r2 rv => q w2 v (s.trans s2) r2 rv
      refine ht j fj (metE n M.K l Q) eb w (L2.wipe sv vs) _ st _ r0 sl0 ?_
      cases q : fj (cleanF (wipeD sd vs)) st with
      | stk => rw [q] at h2; exact h2.elim
      | ok d st' =>
        rw [q] at h2
        exact fun w' y s r _ => key w' st' s r h2
      | ex c st' =>
        rw [q] at h2
        intro w' cls dd s r rx σ' hl
        exact hw cls dd w' c st' Q (E sv) σ' (by rw [List.length_replicate]; exact hl) r rx (Post.step anE s h2)
end
end DS
namespace DS
open PySem PySem.Spec PyProof.Rows L2
section
variable {M : Mo} {k : Nat} {W : WX} {N : List Str} {sc : Sc} {X : Cx}
/-- in the same frame, with further pins, nothing raised -/
theorem CK.held {pn : List (Addr × Obj)} {xe : Value → Shared → Prop} (c : CK M k W N sc X) : CK M k WF N sc (X.tr pn xe) where
  eP := c.eP
  ew := c.ew
  eK := c.eK
  em := c.em
  eb := c.eb
  eN := c.eN
  es := c.es
  calm := c.calm
  rm := c.rm
  nd := c.nd
  fn := c.fn
  pass := fun σ pins H s e s' I h => by
    obtain ⟨_, _, _, _, _, _, _, _, _, _, _, _, z⟩ := h
    exact z.elim
  la := c.la
  gd := c.gd
  ge := c.ge
structure LamE where
  params : Arguments
  body : Expr
  scope : Scope
  f : EE
/-- the list's parts: pairs of a lambda and what is due -/
inductive LamsD (M : Mo) (k k' : Nat) (N : List Str) (sc : Sc) : List Expr → List LamE → List EE → Prop
  | nil : LamsD M k k' N sc [] [] []
  | cons {params : Arguments} {body due : Expr} {scope : Scope} {lpos tpos : Pos} {kk : Nat} {f fd : EE} {es : List Expr} {ls : List LamE} {fds : List EE} (hb : ∀ E : XK, DE M k' (fun cls d _ H => E cls d H) N ⟨scope, scope, none, false, none⟩ body f) (hL : LamX.lamSB sc.v scope = true)
      (hdef : ∀ env : Env, defaultsOf params env = ([], [])) (hbind : ∀ (q : Str) (cl : List (Str × Addr)) (pm cv ctv : Value), bindArgs (PySem.W.kla_fn "<lambda>" q params body scope cl pm cv ctv) ⟨[], []⟩ = pure [])
      (hd : DE M k WF N sc due fd) (h2 : ∀ env : Env, starEach [.Lambda params body scope lpos, due] env = (false, eval (.Lambda params body scope lpos) env) :: (false, eval due env) :: starEach [] env)
      (h1 : ∀ env : Env, starEach (.Tuple [.Lambda params body scope lpos, due] kk tpos :: es) env = (false, eval (.Tuple [.Lambda params body scope lpos, due] kk tpos) env) :: starEach es env) (r : LamsD M k k' N sc es ls fds) :
      LamsD M k k' N sc (.Tuple [.Lambda params body scope lpos, due] kk tpos :: es) (⟨params, body, scope, f⟩ :: ls) (fd :: fds)
def duesA : List EE → EA
  | [] => aNil
  | f :: r => aCons f (duesA r)
/-- one lambda that was made -/
structure Made1 (X : Cx) (np : List (Addr × Obj)) (l : LamE) (p : Addr × Addr × Str) : Prop where
  nm : p.2.2 = X.env.qual ++ "<lambda>"
  at_ : ∃ pm ctv : Value, (p.1, PySem.W.kla_obj "<lambda>" p.2.2 l.params l.body l.scope (cloFrom X.env.cells l.scope.names []) pm p.2.1 ctv) ∈ np
theorem Made1.more {np np' : List (Addr × Obj)} {l : LamE} {p : Addr × Addr × Str} (h : Made1 X np l p) (k : ∀ x ∈ np, x ∈ np') : Made1 X np' l p := by
  obtain ⟨q, pm, ctv, m⟩ := h
  exact ⟨q, pm, ctv, k _ m⟩
theorem lams_made {pos : Pos} {k' : Nat} {cc P : Addr} {q : Str} (c : CS M k W N sc X) (hla : sc.la = some (cc, P, q)) {es : List Expr} {ls : List LamE} {fds : List EE} (hl : LamsD M k k' N sc es ls fds) :
    ∀ (pins : List (Addr × Obj)) (s : Shared) (σ : L2.St) (w : Wd) (sd : Sl) (st st' : Sto) (ds : List D), Inv X pins σ w.H s → Rel M.G w st → Slo M.G w σ sd → duesA fds sd st = .ok ds st' →
      wpAny (model X.prog X.w) X.A (spliced (backTo pos (starEach es X.env))) (fun us s' => ∃ (vs : List V) (np : List (Addr × Obj)) (w' : Wd) (ps : List (Addr × Addr × Str)), Inv X (pins ++ np) σ w'.H s' ∧ Vals vs us ∧ Step w w' ∧ Rel M.G w' st' ∧
        ps.length = ls.length ∧ vs.length = ls.length ∧ ds.length = ls.length ∧ (∀ (i : Nat) p l, ps[i]? = some p → ls[i]? = some l → Made1 X np l p ∧ w'.H p.2.1 = some (LamX.CodeO p.2.1 p.2.2)) ∧
        ∀ (i : Nat) v d p, vs[i]? = some v → ds[i]? = some d → ps[i]? = some p → ∃ t u, v = .ref t ∧ w'.I t = some (.tup [.ref p.1, u]) ∧ Rep M.G w'.I w'.ph u d) (fun _ _ => False) s := by
  induction hl with
  | nil =>
    intro pins s σ w sd st st' ds I rel sl e
    cases e
    exact Calls.spliced_nil ⟨[], [], w, [], by rw [List.append_nil]; exact I, .nil, Step.refl w, rel, rfl, rfl, rfl, fun i p l e => by simp at e, fun i v d p e => by simp at e⟩
  | @cons params body due scope lpos tpos kk f fd es ls fds hb hL hdef hbind hd h2 h1 r ih =>
    intro pins s σ w sd st st' ds I rel sl e
    rw [h1]
    -- the dues
    replace e : ((fd sd st).bind fun x st1 => (duesA fds sd st1).bind fun xs st2 => .ok (x :: xs) st2) = Res.ok ds st' := e
    cases e1 : fd sd st with
    | stk => rw [e1] at e; cases e
    | ex a b => rw [e1] at e; cases e
    | ok d st1 =>
    rw [e1] at e
    replace e : ((duesA fds sd st1).bind fun xs st2 => .ok (d :: xs) st2) = Res.ok ds st' := e
    cases e2 : duesA fds sd st1 with
    | stk => rw [e2] at e; cases e
    | ex a b => rw [e2] at e; cases e
    | ok dr st2 =>
    rw [e2] at e
    cases e
    obtain ⟨y1, y2, y3⟩ := c.la cc P q hla
    have LS : LamX.LamS X.env.scope scope := by rw [c.es]; exact LamX.lamS_by hL
    show wpAny _ _ (spliced ((false, eval (.Tuple [.Lambda params body scope lpos, due] kk tpos) X.env) :: backTo pos (starEach es X.env))) _ _ s
    refine Calls.spliced_cons (wpAny_Tuple_spliced ?_)
    rw [h2]
    show wpAny _ _ (spliced ((false, eval (.Lambda params body scope lpos) X.env) :: (false, eval due X.env) :: [])) _ _ s
    refine Calls.spliced_cons (LamX.lam_make2 (T := M.T) I (by rw [c.eb, c.em]; exact y3.tb) y1 (by rw [y2]; exact y3.mem) (by rw [y2]; exact y3.one) rel.tab.at_ (hdef _) (LamX.LamS.has LS I.ok) fun fa ca pm ctv H1 s1 I1 eN T1 hf hfn hfr hco => ?_)
    obtain ⟨sp1, r1⟩ := lam_step rel eN T1
    have I1p : Inv X (pins ++ [(fa, PySem.W.kla_obj "<lambda>" (X.env.qual ++ "<lambda>") params body scope (cloFrom X.env.cells scope.names []) pm ca ctv)]) σ H1 s1 := I1.pins_of fun p hp => by
      rcases List.mem_append.mp hp with z | z
      · exact I1.pin p (List.mem_append_right _ z)
      · cases List.mem_singleton.mp z
        have nf : fa ∉ frs (X.env :: X.outer) := by rw [← c.sk]; exact hfr
        refine ⟨hf, hfn, fun z => nf ?_, fun z => nf ?_, fun v z => nomatch z⟩
        · unfold frs
          rw [List.filterMap_cons, c.frm]
          exact List.mem_cons.mpr (.inl z)
        · unfold frs
          rw [List.filterMap_cons, c.frm]
          exact List.mem_cons_of_mem _ z
    obtain ⟨td, pd, sd'⟩ := hd
    have ed := sd' ⟨w.I, w.ph, H1⟩ σ sd st (fun u H2 => ∃ w2, w2.H = H2 ∧ Step ⟨w.I, w.ph, H1⟩ w2 ∧ Rel M.G w2 st1 ∧ Rep M.G w2.I w2.ph u d) r1 (sl.step sp1) (by rw [e1]; exact fun w2 v s2 r2 rv => ⟨w2, rfl, s2, r2, rv⟩)
    have pdX := (pd (X.tr X.pn fun _ _ => False) c.toCK.held).run
    refine Calls.spliced_cons (thn (pdX (pins ++ [(fa, PySem.W.kla_obj "<lambda>" (X.env.qual ++ "<lambda>") params body scope (cloFrom X.env.cells scope.names []) pm ca ctv)]) s1 σ H1 _ ⟨I1p.ok.toTry _ _, I1p.os, I1p.bare, I1p.base, I1p.loc, I1p.cell, I1p.free, I1p.freeC, I1p.pin, I1p.hok, I1p.len⟩ ed) fun uu s2 got => ?_)
    obtain ⟨u, H2, I2, ru, w2, rfl, sp2, r2, rep2⟩ := got
    replace I2 : Inv X (pins ++ [(fa, PySem.W.kla_obj "<lambda>" (X.env.qual ++ "<lambda>") params body scope (cloFrom X.env.cells scope.names []) pm ca ctv)]) σ w2.H s2 := ⟨I1p.ok, I2.os, I2.bare, I2.base, I2.loc, I2.cell, I2.free, I2.freeC, I2.pin, I2.hok, I2.len⟩
    have rt : Vals [.ref fa, u] [.ref fa, uu] := .cons rfl (.cons ru .nil)
    have z : [Value.ref fa, uu].length ≤ sizeLine := by show 2 ≤ sizeLine; decide
    refine Calls.spliced_nil ⟨z, ?_⟩
    have hn : w2.H s2.heap.objs.size = none := I2.hok.fresh (Nat.le_refl _)
    have I3 : Inv X (pins ++ [(fa, PySem.W.kla_obj "<lambda>" (X.env.qual ++ "<lambda>") params body scope (cloFrom X.env.cells scope.names []) pm ca ctv)]) σ (w2.addI s2.heap.objs.size (.tup [.ref fa, u])).H { s2 with heap := s2.heap.push { cls := .type "tuple", data := .seq [Value.ref fa, uu].toArray } } :=
      I2.laid (t' := s2.toks) (fun b o e => Heap.get?_push_of_some _ e) (Nat.le_refl _) ⟨z, _, rt, ⟨_, Heap.get?_push_size _ rfl, rfl, _, rfl⟩⟩
    have sp3 := step_addI (o := .tup [.ref fa, u]) r2 hn
    have r3 := r2.addI (o := .tup [.ref fa, u]) hn
    have spa := sp1.trans (sp2.trans sp3)
    refine thn (ih _ _ σ (w2.addI s2.heap.objs.size (.tup [.ref fa, u])) sd st1 _ dr I3 r3 (sl.step spa) e2) fun us s4 got => ?_
    obtain ⟨vs, np, w4, ps, I4, rv, sp4, r4, l1, l2, l3, made, reps⟩ := got
    have hco1 : w.H fa = w.H fa := rfl
    have sall := sp2.trans (sp3.trans sp4)
    have r1' := r1
    have nca : ca ∉ w.ph := fun zz => (r1.kinds (w := ⟨w.I, w.ph, H1⟩) zz hco).2 _ _ rfl
    refine ⟨.ref s2.heap.objs.size :: vs, (fa, PySem.W.kla_obj "<lambda>" (X.env.qual ++ "<lambda>") params body scope (cloFrom X.env.cells scope.names []) pm ca ctv) :: np, w4, (fa, ca, X.env.qual ++ "<lambda>") :: ps, by rw [List.append_assoc] at I4; exact I4, .cons rfl rv, spa.trans sp4, r4, by simp [l1], by simp [l2], by simp [l3], fun i p l e1 e2 => ?_, fun i v d p e1 e2 e3 => ?_⟩
    · cases i with
      | zero =>
        simp at e1 e2
        subst e1 e2
        exact ⟨⟨rfl, pm, ctv, List.mem_cons_self⟩, sall.keep ca _ hco nca codeO_nt⟩
      | succ i =>
        obtain ⟨m1, m2⟩ := made i p l (by simpa using e1) (by simpa using e2)
        exact ⟨m1.more fun x hx => List.mem_cons_of_mem _ hx, m2⟩
    · cases i with
      | zero =>
        simp at e1 e2 e3
        subst e1 e2 e3
        exact ⟨_, u, rfl, sp4.im _ _ upd_same, (rep2.step sp3).step sp4⟩
      | succ i => exact reps i v d p (by simpa using e1) (by simpa using e2) (by simpa using e3)
end
end DS
namespace DS
open PySem PySem.Spec PyProof.Rows L2
def lamItems : Nat → List D → List D
  | _, [] => []
  | j, d :: ds => .tup [.lam j, d] :: lamItems (j + 1) ds
theorem lamItems_len : ∀ (j : Nat) (ds : List D), (lamItems j ds).length = ds.length
  | _, [] => rfl
  | j, d :: ds => by unfold lamItems; rw [List.length_cons, List.length_cons, lamItems_len]
theorem lamItems_get : ∀ (j : Nat) (ds : List D) (i : Nat) (y : D), (lamItems j ds)[i]? = some y → ∃ d, ds[i]? = some d ∧ y = .tup [.lam (j + i), d]
  | _, [], i, y, h => by unfold lamItems at h; simp at h
  | j, d :: ds, 0, y, h => by
    unfold lamItems at h
    simp at h
    exact ⟨d, rfl, h.symm⟩
  | j, d :: ds, i + 1, y, h => by
    unfold lamItems at h
    obtain ⟨e, h1, h2⟩ := lamItems_get (j + 1) ds i y (by simpa using h)
    exact ⟨e, by simpa using h1, by rw [h2, show j + (i + 1) = j + 1 + i by omega]⟩
def finS : SR → SR
  | .go .nx sd st => if stoF st = true then .go .nx (cleanF sd) st else .stk
  | .go (.ret d) sd st => if (stoF st && d.noF) = true then .go (.ret d) sd st else .stk
  | _ => .stk
def fLams (i jc jd : Nat) (tab : STab) (hs : List Hnd) (dflt : D) (fb : List EE) : EA :=
  fLc (iSeq (eVar i)) (gTupD [gNameD jc, gNameD jd]) (eTest (eOp neD (eOp ixD (eMv jc [jc, jd] tab hs dflt fb) (eC (.int 1))) (eVar jd))) (eVar jd) [jc, jd]
def sLams (i : Nat) (fds : List EE) (g : SS) : SS := fun sd st => match duesA fds sd st with
  | .ok ds st1 => if ds.length ≤ lineN then finS (g (sd.set i (some (.lst (lamItems 0 ds)))) st1) else .stk
  | _ => .stk
section
variable {M : Mo} {k k' : Nat} {W : WX} {N : List Str} {sc : Sc}
/-- a statement's reading by its denotation -/
def tD (M : Mo) (W : WX) (g : SS) : TS := fun Dn σ H => ∃ u sd st, u.H = H ∧ Rel M.G u st ∧ Slo M.G u σ sd ∧ PostS M.G u (g sd st) Dn W
theorem sd_tD {g : SS} : SD M.G W (tD M W g) g := fun u sv sd st Dn rel sl h => ⟨u, sd, st, rfl, rel, sl, h⟩
theorem lamsD_get {es : List Expr} {ls : List LamE} {fds : List EE} (h : LamsD M k k' N sc es ls fds) : ∀ (j : Nat) l, ls[j]? = some l → (∀ E : XK, DE M k' (fun cls d _ H => E cls d H) N ⟨l.scope, l.scope, none, false, none⟩ l.body l.f) ∧ LamX.lamSB sc.v l.scope = true ∧
    ∀ (q : Str) (cl : List (Str × Addr)) (pm cv ctv : Value), bindArgs (PySem.W.kla_fn "<lambda>" q l.params l.body l.scope cl pm cv ctv) ⟨[], []⟩ = pure [] := by
  induction h with
  | nil => intro j l e; simp at e
  | cons hb hL hdef hbind hd h2 h1 r ih =>
    intro j l e
    cases j with
    | zero =>
      simp at e
      subst e
      exact ⟨hb, hL, hbind⟩
    | succ j => exact ih j l (by simpa using e)
theorem keepsL_nil {vs : List Nat} : KeepsL gNil vs := fun xs σ H Q q => ⟨q.1, rfl, q.2⟩
theorem keepsL_name {vs : List Nat} {i : Nat} {u : TGs} (hi : i ∈ vs) (h : KeepsL u vs) : KeepsL (gCons (gName i) u) vs := fun xs σ H Q q => by
  obtain ⟨v, r, rfl, q⟩ := q
  refine ⟨v, r, rfl, ?_⟩
  have z := h r _ H Q (show u r (σ.set i (some v)) H Q from q)
  rw [wipe_set σ hi] at z
  exact z
theorem keeps_tup {K : PySem.W.Frag} {n : Nat} {vs : List Nat} {u : TGs} (h : KeepsL u vs) : Keeps (gTup K n u) vs := fun v σ H Q q => by
  obtain ⟨aa, xs, h1, h2, h3, h4⟩ := q
  exact ⟨aa, xs, h1, h2, h3, h xs σ H Q h4⟩
theorem db_lams {x a y z w : Str} {Ng : List Str} {sg bs : Scope} {h0 : ExceptHandler} {hds : List ExceptHandler} {hs : List Hnd} {tab : STab} {er : Expr} {fr : EE} {dflt : D} {es : List Expr} {ls : List LamE} {fds : List EE} {i jc jd n1 n2 : Nat} {cc P : Addr} {q : Str}
    {q1 q2 q3 q4 q5 p1 p2 p3 p4 p5 p6 p7 p8 p9 p10 p11 p12 pl s1 s2 s3 : Pos} {S2 : Stmt} {rest : List Stmt} {gr : SS} (cS : TE → TS) (gS : EA → SS) (lc : Expr)
    (elc : lc = .ListComp (.Name z p1) [⟨.Tuple [.Name y p2, .Name z p3] n1 p4, .Name w p5, [.Compare (.Subscript (.Call (.Name x p6) [.Name y p7] [] p8) (.Constant (.int 1) n2 p9) p10) [.NotEq] [.Name z p11] p12], 0⟩] bs pl)
    (hS : ∀ (X : Cx) (te : TE), CK M k WF N sc X → PE X lc te → PS X S2 (cS te)) (hD : ∀ (L : LTab) (te : TE) (fl : EA), SF (M.GL L) (EW WF) te fl → SD (M.GL L) WF (cS te) (gS fl))
    (hm : MetF M x a sg [.Try [.Expr (.Call (.Name a q1) [] [] q2) q3] (h0 :: hds) [] [] q4, .Return (some er) q5]) (Sg : FnScope Ng [a] sg) (hNg : Ng[0]? = some a) (hva : Vis sg a) (hsl : ∀ f : Addr, (L2.start Ng [V.ref f])[0]? = some (some (V.ref f)))
    (hH : HdsD M Ng sg (h0 :: hds) hs) (ht : SubOk M tab) (hret : DE M k' WF Ng ⟨sg, sg, none, false, none⟩ er fr) (hdf : ∀ sd st, fr sd st = .ok dflt st) (hk : k' + 2 ≤ k)
    (hl : LamsD M k k' N sc es ls fds) (hla : sc.la = some (cc, P, q)) (hgd : sc.gd = true)
    (hNi : N[i]? = some w) (hwl : sc.v.names.lookup w = some .local) (hwo : Loc sc.o w) (hb : BlkOk N sc.v bs [(y, jc), (z, jd)])
    (hNc : N[jc]? = some y) (hyl : Loc (sc.sub bs).v y) (hyo : Loc (sc.sub bs).o y) (hNd : N[jd]? = some z) (hzl : Loc (sc.sub bs).v z) (hzo : Loc (sc.sub bs).o z)
    (hgx : ∀ env : Env, ({ env with scope := (sc.sub bs).v } : Env).kindOf x = some .globalImplicit) (hr : DB M k W N sc rest gr)
    (hsw : ∀ env : Env, swapsWith (.List es s1) (some (.Name w s2)) s3.line env = pure false) (hse : ∀ (env : Env) (v : Value), foldedSetIterable (.Name w p5) env v = pure v)
    (hx1 : (x == ("__debug__" : Str)) = false) (ha1 : (a == ("__debug__" : Str)) = false) (ha2 : (a == ("__classdict__" : Str)) = false) (hy1 : (y == ("__debug__" : Str)) = false) (hy2 : (y == ("__classdict__" : Str)) = false) (hz1 : (z == ("__debug__" : Str)) = false) (hz2 : (z == ("__classdict__" : Str)) = false) (hw1 : (w == ("__debug__" : Str)) = false) (hw2 : (w == ("__classdict__" : Str)) = false) :
    DB M k W N sc (.Assign [.Name w s2] (.List es s1) s3 :: S2 :: rest) (sSeq (sLams i fds (gS (fLams i jc jd tab hs dflt (ls.map LamE.f)))) gr) := by
  obtain ⟨tr, pr, sr⟩ := hr
  obtain ⟨g, oc, od, pg, dV, kV, doc, pm, an, cdv, ct, osl, m1, m2, m3, m4, m5⟩ := hm
  obtain ⟨l, hcl, hw⟩ := hds_ok ht hH
  obtain ⟨tret, pret, sret⟩ := hret
  have get := lamsD_get hl
  have ex : ∀ (j : Nat) (E : XK), ∃ te : TE, ∀ l, ls[j]? = some l → (∀ X, CK M k' (fun cls d _ H => E cls d H) N ⟨l.scope, l.scope, none, false, none⟩ X → PE X l.body te) ∧ SE M.G (EW fun cls d _ H => E cls d H) te l.f := fun j E => by
    cases e : ls[j]? with
    | none => exact ⟨fun _ _ _ => False, fun l z => nomatch z⟩
    | some l =>
      obtain ⟨te, t1, t2⟩ := (get j l e).1 E
      exact ⟨te, fun l' z => by cases z; exact ⟨t1, t2⟩⟩
  let t : Nat → XK → TE := fun j E => Classical.choose (ex j E)
  have tp : ∀ (j : Nat) (E : XK) l, ls[j]? = some l → (∀ X, CK M k' (fun cls d _ H => E cls d H) N ⟨l.scope, l.scope, none, false, none⟩ X → PE X l.body (t j E)) ∧ SE M.G (EW fun cls d _ H => E cls d H) (t j E) l.f := fun j E => Classical.choose_spec (ex j E)
  refine ⟨tD M W _, fun X c => ⟨fun pins s σ H Dn I h => ?_⟩, sd_tD⟩
  obtain ⟨w0, sd, st, rfl, rel, sl, h⟩ := h
  have h := (h : PostS M.G w0 (match (match duesA fds sd st with
    | .ok ds st1 => if ds.length ≤ lineN then finS (gS (fLams i jc jd tab hs dflt (ls.map LamE.f)) (sd.set i (some (.lst (lamItems 0 ds)))) st1) else .stk
    | _ => .stk) with
    | .go .nx sd st => gr sd st
    | r => r) Dn W)
  cases ed : duesA fds sd st with
  | stk => rw [ed] at h; exact h.elim
  | ex e1 e2 => rw [ed] at h; exact h.elim
  | ok ds st1 =>
  rw [ed] at h
  replace h : PostS M.G w0 (match (if ds.length ≤ lineN then finS (gS (fLams i jc jd tab hs dflt (ls.map LamE.f)) (sd.set i (some (.lst (lamItems 0 ds)))) st1) else .stk) with
    | .go .nx sd st => gr sd st
    | r => r) Dn W := h
  by_cases hlen : ds.length ≤ lineN
  case neg => rw [if_neg hlen] at h; exact h.elim
  rw [if_pos hlen] at h
  have gd := c.gd hgd
  have c0 : CK M k W N sc X := c.toCK
  -- the list is made
  refine wpAny_execs_cons (wpAny_Assign_Name (wpAny_List_spliced (wpAny_mono (lams_made (pos := s1) c hla hl pins s σ w0 sd st st1 ds I rel sl ed) (fun us sa got => ?_) fun _ _ z => z.elim)) (hsw _))
  obtain ⟨vs, np, w1, ps, I1, rv, sp1, r1, l1, l2, l3, made, reps⟩ := got
  have zl : us.length ≤ sizeLine := by
    rw [← rv.length, l2, ← l3]
    exact line_ok hlen
  refine ⟨zl, ?_⟩
  have hn : w1.H sa.heap.objs.size = none := I1.hok.fresh (Nat.le_refl _)
  have I2 : Inv X (pins ++ np) σ (w1.addI sa.heap.objs.size (.lst vs)).H { sa with heap := sa.heap.push { cls := .type "list", data := .seq us.toArray } } :=
    I1.laid (t' := sa.toks) (fun b o e => Heap.get?_push_of_some _ e) (Nat.le_refl _) ⟨by rw [rv.length]; exact zl, us, 0, rv, Heap.get?_push_size _ rfl⟩
  have sp2 := step_addI (o := .lst vs) r1 hn
  have r2 := r1.addI (o := .lst vs) hn
  refine store_ok I2 (by rw [c.eN]; exact c.nd) (i := i) (by rw [c.eN]; exact hNi) (by rw [c.es]; exact .inl hwl) (v := .ref sa.heap.objs.size) rfl (fun sb I3 => ?_) (.inr (by rw [c.es]; exact hwl))
  -- the world in which the lambdas have names
  let L : LTab := fun j => ps[j]?
  have lpos : ∀ j f cd nm, L j = some (f, cd, nm) → ∃ l, ls[j]? = some l ∧ Made1 X np l (f, cd, nm) ∧ w1.H cd = some (LamX.CodeO cd nm) := fun j f cd nm e => by
    have hj : j < ls.length := by rw [← l1]; exact (List.getElem?_eq_some_iff.mp e).1
    refine ⟨ls[j], List.getElem?_eq_getElem hj, ?_⟩
    exact made j _ _ e (List.getElem?_eq_getElem hj)
  have lh : LH L (w1.addI sa.heap.objs.size (.lst vs)).H := fun j f cd nm e => by
    obtain ⟨_, _, _, z⟩ := lpos j f cd nm e
    exact Evl.Ex.new hn _ _ z
  have rL : Rel (M.GL L) (w1.addI sa.heap.objs.size (.lst vs)) st1 := r2.toL lh
  have slL : Slo (M.GL L) (w1.addI sa.heap.objs.size (.lst vs)) (σ.set i (some (.ref sa.heap.objs.size))) (sd.set i (some (.lst (lamItems 0 ds)))) := by
    refine Slo.set (Slo.toL (sl.step (sp1.trans sp2))) i (Rep.lst' upd_same ⟨by rw [lamItems_len, l2, l3], fun n v d e1 e2 => ?_⟩)
    obtain ⟨dd, e3, rfl⟩ := lamItems_get 0 ds n d e2
    have hj : n < ps.length := by
      rw [l1, ← l3]
      exact (List.getElem?_eq_some_iff.mp e3).1
    obtain ⟨tt, u, rfl, e4, ru⟩ := reps n v dd ps[n] e1 e3 (List.getElem?_eq_getElem hj)
    refine Rep.tup' (SqT.of (sp2.im _ _ e4)) (Reps.cons (.lam (f := ps[n].1) (c := ps[n].2.1) (q := ps[n].2.2) ?_) (Reps.cons (Rep.toL (ru.step sp2)) Reps.nil))
    show ps[0 + n]? = _
    rw [Nat.zero_add, List.getElem?_eq_getElem hj]
  -- the tests in the block
  have cX : CK M k WF N sc (X.tr (X.pn ++ (pins ++ np)) fun _ _ => False) := c0.held
  have hcl' := fun (s : Shared) (H : Hp) => hcl (cxOf C8.CX0 X.prog X.w X.K X.mg X.base Ng x sg g cdv X.A X.stack s H C8.E0).nox c.eK c.em rfl rfl gd (by
    show X.A.units + 3 + 64 < cLine
    have zz := (c.rm.mono hk).un
    omega)
  have c3 : CK M (k' + 1) WF N sc (X.tr (X.pn ++ (pins ++ np)) fun _ _ => False) := ⟨c.eP, c.ew, c.eK, c.em, c.eb, c.eN, c.es, c.calm, (c.rm.mono hk).mono (by omega), c.nd, c.fn, cX.pass, c.la, c.gd, c.ge⟩
  have hG : LamX.GivesTo (X.tr (X.pn ++ (pins ++ np)) fun _ _ => False) Ng x sg g cdv [.Try [.Expr (.Call (.Name a q1) [] [] q2) q3] (h0 :: hds) [] [] q4, .Return (some er) q5] a (X.env.qual ++ "<lambda>") (TMet Ng.length M.K l tret) := by
    rw [← c.eK]
    exact met_gives Sg.nd (fun s H => hcl' s H) (fun s H => pret _ (ck_met c3 Sg.nd)) hsl
  have hLam : ∀ j f cd nm, L j = some (f, cd, nm) → LamAt (X.tr (X.pn ++ (pins ++ np)) fun _ _ => False) k' (t j) f cd nm := fun j f cd nm e => by
    obtain ⟨le, e1, ⟨m1, pm', ctv, m3⟩, _⟩ := lpos j f cd nm e
    obtain ⟨_, g2, g3⟩ := get j le e1
    have LS : LamX.LamS X.env.scope le.scope := by rw [c.es]; exact LamX.lamS_by g2
    exact ⟨m1, le.params, le.body, le.scope, pm', ctv, LS, List.mem_append_right _ (List.mem_append_right _ m3), g3, fun A outer s H E rm => (tp j E le e1).1 _ (ck_lam cX LS rm)⟩
  have ts : TsAt (X.tr (X.pn ++ (pins ++ np)) fun _ _ => False) bs [jc, jd] [.Compare (.Subscript (.Call (.Name x p6) [.Name y p7] [] p8) (.Constant (.int 1) n2 p9) p10) [.NotEq] [.Name z p11] p12]
      (fun _ => tTest (tOp (rNeD M.K) (tOp (rIxD M.K) (tMv L (TMet Ng.length M.K l tret) t jc [jc, jd]) (tC (.int 1))) (tVar jd))) := by
    intro pins0 s0 σ0 H0 fp I0 hfp pins' s' σ' H' Q J ew hq
    have cB : CK M k WF N (sc.sub bs) (cBlk (X.tr (X.pn ++ (pins ++ np)) fun _ _ => False) s0 H0 bs fp) := ck_blk cX
    have vy : PE (cBlk (X.tr (X.pn ++ (pins ++ np)) fun _ _ => False) s0 H0 bs fp) (.Name y p7) (tVar jc) := pe_var (i := jc) (by rw [cB.eN]; exact hNc) (by rw [cB.es]; exact hyl.elim .inl fun zz => .inr (.inl zz)) hy1 hy2
    have vz : PE (cBlk (X.tr (X.pn ++ (pins ++ np)) fun _ _ => False) s0 H0 bs fp) (.Name z p11) (tVar jd) := pe_var (i := jd) (by rw [cB.eN]; exact hNd) (by rw [cB.es]; exact hzl.elim .inl fun zz => .inr (.inl zz)) hz1 hz2
    have mv := pe_mv (L := L) (TT := TMet Ng.length M.K l tret) (t := t) (vs := [jc, jd]) (p := p6) (py := p7) (pos := p8) I0 hfp hLam (gl_of cB hgx) (by rw [cX.em]; exact m1) (by rw [cX.eK]; exact m2) (by rw [cX.eK]; exact m3) (by rw [cX.eK]; exact m4) (by rw [cX.eK]; exact m5) Sg hNg hva hG (c.rm.mono hk)
      (pa_cons vy pa_nil rfl) rfl hx1 ha1 ha2
    have pt := pts_one (pt_cmpR (pos := p12) (cm_ne.op _ cB.eK (room_hu cB.rm)) (pe_ix (pos := p10) (r := rIxD M.K) (by rw [← cB.eK]; exact ix_any) mv (pe_int (i := 1) (j := n2) (pos := p9)) (fun _ _ => rfl)) vz rfl)
    exact pt.run pins' s' σ' H' Q J ⟨ew, hq⟩
  have pl := pe_lcAt (X := X.tr (X.pn ++ (pins ++ np)) fun _ _ => False) (pos := pl) (wi := tSeqI M.K (tVar i)) (g := gTup M.K 2 (gCons (gName jc) (gCons (gName jd) gNil))) (te := tVar jd) (own := [(y, jc), (z, jd)]) (tg := .Tuple [.Name y p2, .Name z p3] n1 p4) (iter := .Name w p5) (elt := .Name z p1) cX.calm (by rw [cX.eN]; exact cX.nd)
    (by
      have zz := pi_seqI (tg := .Tuple [.Name y p2, .Name z p3] n1 p4) (pe_var (X := X.tr (X.pn ++ (pins ++ np)) fun _ _ => False) (pos := p5) (i := i) (by rw [cX.eN]; exact hNi) (by rw [cX.es]; exact .inl hwl) hw1 hw2)
      rw [cX.eK] at zz
      exact zz)
    (by rw [cX.eN, cX.es]; exact hb)
    (fun s H fp => by
      have cB : CK M k WF N (sc.sub bs) (cBlk (X.tr (X.pn ++ (pins ++ np)) fun _ _ => False) s H bs fp) := ck_blk cX
      have zz := pg_tup (n := 2) (pos := p4) (k := n1) cB.calm (pgs_cons (pg_name (pos := p2) (i := jc) (by rw [cB.eN]; exact cB.nd) (by rw [cB.eN]; exact hNc) (by rw [cB.es]; exact hyl) (by rw [cB.es]; exact cB.fn y hyo)) (pgs_cons (pg_name (pos := p3) (i := jd) (by rw [cB.eN]; exact cB.nd) (by rw [cB.eN]; exact hNd) (by rw [cB.es]; exact hzl) (by rw [cB.es]; exact cB.fn z hzo)) pgs_nil rfl) rfl) rfl rfl
      rw [cB.eK] at zz
      exact zz)
    ts
    (fun s H fp => by
      have cB : CK M k WF N (sc.sub bs) (cBlk (X.tr (X.pn ++ (pins ++ np)) fun _ _ => False) s H bs fp) := ck_blk cX
      exact pe_var (i := jd) (by rw [cB.eN]; exact hNd) (by rw [cB.es]; exact hzl.elim .inl fun zz => .inr (.inl zz)) hz1 hz2)
    (hse _)
  -- what it is
  have hwR : HdsW M (List.replicate Ng.length "") tab hs l := fun cls d w c st Q E σ hl => hw cls d w c st Q E σ (by rw [hl, List.length_replicate])
  have sf : SF (M.GL L) (EW WF) (tLc (tSeqI M.K (tVar i)) (gTup M.K 2 (gCons (gName jc) (gCons (gName jd) gNil))) (tTest (tOp (rNeD M.K) (tOp (rIxD M.K) (tMv L (TMet Ng.length M.K l tret) t jc [jc, jd]) (tC (.int 1))) (tVar jd))) (tVar jd) [jc, jd])
      (fLams i jc jd tab hs dflt (ls.map LamE.f)) :=
    sf_lc (G := M.GL L) (si_seq se_var) (sg_tup (SGs.cons sg_name (SGs.cons sg_name SGs.nil)) rfl) (keeps_tup (keepsL_name (by simp) (keepsL_name (by simp) keepsL_nil))).wipes
      (st_test (se_op d_ne (se_op d_ix (se_mv hwR sret hdf fun j f E e => by
        rw [List.getElem?_map] at e
        cases e1 : ls[j]? with
        | none => rw [e1] at e; cases e
        | some le =>
          rw [e1] at e
          cases e
          exact (tp j E le e1).2) (se_c fun _ _ => .int 1)) se_var)) se_var
  have run := (hS _ _ cX (by rw [elc]; exact pl)).run [] sb (σ.set i (some (.ref sa.heap.objs.size))) (w1.addI sa.heap.objs.size (.lst vs)).H
    { nx := fun σ3 H3 => ∃ w3 sd3 st3, w3.H = H3 ∧ Rel M.G w3 st3 ∧ Slo M.G w3 σ3 sd3 ∧ PostS M.G w3 (gr sd3 st3) Dn W, rt := Dn.rt } (I3.toTry _)
    (hD L _ _ sf _ _ _ st1 _ rL slL (by
      cases eg : gS (fLams i jc jd tab hs dflt (ls.map LamE.f)) (sd.set i (some (.lst (lamItems 0 ds)))) st1 with
      | stk => rw [eg] at h; exact h.elim
      | ex e sd3 st3 => rw [eg] at h; exact h.elim
      | go fl sd3 st3 =>
        rw [eg] at h
        cases fl with
        | brk => exact h.elim
        | cnt => exact h.elim
        | nx =>
          replace h : PostS M.G w0 (match (if stoF st3 = true then SR.go .nx (cleanF sd3) st3 else .stk) with
            | .go .nx sd st => gr sd st
            | r => r) Dn W := h
          by_cases hst : stoF st3 = true
          case neg => rw [if_neg hst] at h; exact h.elim
          rw [if_pos hst] at h
          exact fun w3 sv3 sp3 r3 sl3 => ⟨w3, cleanF sd3, st3, rfl, r3.ofL hst, sl3.ofL, PostS.step ((sp1.trans sp2).trans sp3) h⟩
        | ret d =>
          replace h : PostS M.G w0 (match (if (stoF st3 && d.noF) = true then SR.go (.ret d) sd3 st3 else .stk) with
            | .go .nx sd st => gr sd st
            | r => r) Dn W := h
          by_cases hst : (stoF st3 && d.noF) = true
          case neg => rw [if_neg hst] at h; exact h.elim
          rw [if_pos hst] at h
          rw [Bool.and_eq_true] at hst
          exact fun w3 v sp3 r3 rv => h w3 v ((sp1.trans sp2).trans sp3) (r3.ofL hst.1) (rv.ofL hst.2)))
  refine wpAny_execs_cons (wpAny_mono run (fun fl sc2 post => ?_) fun _ _ z => z.elim)
  have okX := I.ok
  cases fl with
  | next =>
    obtain ⟨σ3, H3, J3, w3, sd3, st3, rfl, r3, sl3, h3⟩ := post
    exact (pr X c).run pins sc2 σ3 w3.H Dn (Inv.ofTry J3 okX).unpinned (sr w3 σ3 sd3 st3 Dn r3 sl3 h3)
  | ret v =>
    obtain ⟨u, σ3, H3, J3, ru, q3⟩ := post
    exact ⟨u, σ3, H3, (Inv.ofTry J3 okX).unpinned, ru, q3⟩
  | brk =>
    obtain ⟨_, _, _, zz⟩ := post
    exact zz.elim
  | cont =>
    obtain ⟨_, _, _, zz⟩ := post
    exact zz.elim
end
end DS
namespace DS
open PySem PySem.Spec PyProof.Rows L2
def gRet (fl : EA) : SS := sRet (eOp eqD (eFz fl) (eFz (fLst aNil)))
section
variable {M : Mo} {k : Nat} {W : WX} {N : List Str} {sc : Sc}
theorem db_lamsR (k' : Nat) {x a y z w : Str} {Ng : List Str} {sg bs : Scope} {h0 : ExceptHandler} {hds : List ExceptHandler} {hs : List Hnd} {tab : STab} {er : Expr} {fr : EE} {dflt : D} {es : List Expr} {ls : List LamE} {fds fb : List EE} {n1 n2 : Nat} {cc P : Addr} {q : Str}
    {q1 q2 q3 q4 q5 p1 p2 p3 p4 p5 p6 p7 p8 p9 p10 p11 p12 pl s1 s2 s3 r1 r2 r3 : Pos} (i jc jd : Nat)
    (hm : MetF M x a sg [.Try [.Expr (.Call (.Name a q1) [] [] q2) q3] (h0 :: hds) [] [] q4, .Return (some er) q5]) (Sg : FnScope Ng [a] sg) (hNg : Ng[0]? = some a) (hva : Vis sg a) (hsl : ∀ f : Addr, (L2.start Ng [V.ref f])[0]? = some (some (V.ref f)))
    (hH : HdsD M Ng sg (h0 :: hds) hs) (ht : SubOk M tab) (hret : DE M k' WF Ng ⟨sg, sg, none, false, none⟩ er fr) (hdf : ∀ sd st, fr sd st = .ok dflt st) (hk : k' + 2 ≤ k)
    (hl : LamsD M k k' N sc es ls fds) (hla : sc.la = some (cc, P, q)) (hb : BlkOk N sc.v bs [(y, jc), (z, jd)])
    (hNi : N[i]? = some w) (hwl : sc.v.names.lookup w = some .local) (hwo : Loc sc.o w) (hNc : N[jc]? = some y) (hyl : Loc (sc.sub bs).v y) (hyo : Loc (sc.sub bs).o y) (hNd : N[jd]? = some z) (hzl : Loc (sc.sub bs).v z) (hzo : Loc (sc.sub bs).o z)
    (hfb : ls.map LamE.f = fb := by rfl) (hgd : sc.gd = true := by rfl) (hgx : ∀ env : Env, ({ env with scope := (sc.sub bs).v } : Env).kindOf x = some .globalImplicit := by intro _; rfl)
    (hsw : ∀ env : Env, swapsWith (.List es s1) (some (.Name w s2)) s3.line env = pure false := by intro _; rfl) (hse : ∀ (env : Env) (v : Value), foldedSetIterable (.Name w p5) env v = pure v := by intro _ _; rfl)
    (hx1 : (x == ("__debug__" : Str)) = false := by rfl) (ha1 : (a == ("__debug__" : Str)) = false := by rfl) (ha2 : (a == ("__classdict__" : Str)) = false := by rfl) (hy1 : (y == ("__debug__" : Str)) = false := by rfl) (hy2 : (y == ("__classdict__" : Str)) = false := by rfl)
    (hz1 : (z == ("__debug__" : Str)) = false := by rfl) (hz2 : (z == ("__classdict__" : Str)) = false := by rfl) (hw1 : (w == ("__debug__" : Str)) = false := by rfl) (hw2 : (w == ("__classdict__" : Str)) = false := by rfl) :
    DB M k W N sc [.Assign [.Name w s2] (.List es s1) s3, .Return (some (.Compare (.ListComp (.Name z p1) [⟨.Tuple [.Name y p2, .Name z p3] n1 p4, .Name w p5, [.Compare (.Subscript (.Call (.Name x p6) [.Name y p7] [] p8) (.Constant (.int 1) n2 p9) p10) [.NotEq] [.Name z p11] p12], 0⟩] bs pl) [.Eq] [.List [] r1] r2)) r3]
      (sSeq (sLams i fds (gRet (fLams i jc jd tab hs dflt fb))) sNext) := by
  subst hfb
  exact db_lams (n1 := n1) (n2 := n2) (p1 := p1) (p2 := p2) (p3 := p3) (p4 := p4) (p5 := p5) (p6 := p6) (p7 := p7) (p8 := p8) (p9 := p9) (p10 := p10) (p11 := p11) (p12 := p12) (pl := pl) (fun te => tRet (tOp (rEqD M.K) te (tLst tNil))) gRet _ rfl
    (fun X te c pe => ps_ret (pe_cmpR (cm_eq.op X c.eK (room_hu c.rm)) pe (pe_lst pa_nil) rfl)) (fun L te fl sf => sd_ret (se_op d_eq (se_fz sf) (se_fz (sf_lst sa_nil))))
    hm Sg hNg hva hsl hH ht hret hdf hk hl hla hgd hNi hwl hwo hb hNc hyl hyo hNd hzl hzo hgx db_nil hsw hse hx1 ha1 ha2 hy1 hy2 hz1 hz2 hw1 hw2
end
end DS
namespace DS
open PySem PySem.Spec PyProof.Rows L2
end DS
namespace DS
open PySem PySem.Spec PyProof.Rows L2
end DS
namespace DS
open PySem PySem.Spec PyProof.Rows L2
end DS
namespace DS
open PySem PySem.Spec PyProof.Rows L2
theorem cs_gen {P : Program} {T : List (Addr × Str)} {w : World} {K : PySem.W.Frag} {mg : Str → Option Value} {base : Heap} {N : List Str} {qual : Str} {sc : Scope} {f : Addr} {cd : Value} {A : Around} {outer : List Env} {s : Shared} {H : Hp} {E : XK} {pn : List (Addr × Obj)} {k : Nat} (hnd : N.Nodup) (hr : Room k (A.deeper (envOfC qual sc s.heap.objs.size f cd))) :
    CS ⟨P, w, K, mg, base, T⟩ k (fun cls d _ H => E cls d H) N ⟨sc, sc, none, false, none⟩ (gcxOf P w K mg base N qual sc f cd A outer s H E pn) where
  eP := rfl
  ew := rfl
  eK := rfl
  em := rfl
  eb := rfl
  eN := rfl
  es := rfl
  calm := rfl
  rm := hr
  nd := hnd
  fn := fun _ _ => .inl rfl
  pass := fun σ => passAt takes_gcx σ
  la := fun _ _ _ z => nomatch z
  gd := fun z => nomatch z
  ge := fun _ _ _ z => nomatch z
  hp := owns_gcx
  tk := takes_gcx
  sk := rfl
  frm := rfl
/-- the promise: nothing is handed out -/
def spG (G : Md) (n : Nat) (f : FF) : SpG := fun vs H Q E => spD G n f vs H (fun v H' => v = .non ∧ Q [] H') E
section
variable {M : Mo} {k : Nat} {W : WX} {N : List Str} {sc : Sc} {x : Str}
theorem gfn_ok {qual : Str} {params : Arguments} {body : List Stmt} {dvs : List V} {kws : List (Str × V)} {fa : Addr} {fd : FuncData} {ps : List Str} {nl : Nat} {g : SS} {S0 : Scope} (F : FunD M.K x qual params body S0 dvs kws fa fd) (S : GScope N ps S0) (hN : N.length = ps.length + nl) (hb : ∀ W, DB M k W N ⟨S0, S0, none, false, none⟩ body g) :
    GFn M.P M.w M.K M.mg M.base (k + 1) fa fd ps (spG M.G ps.length (fnD nl g)) := by
  obtain ⟨oc, od, dV, kV, doc, pm, an, cdv, ct, osl, rfl, lk, hcd, _, _⟩ := F.ex
  refine gfn_of lk hcd S (fun vs H Q E h => h.1) fun A outer s H vs Q E pn hr h => ?_
  obtain ⟨t, pt, st⟩ := hb (fun cls d _ H => E cls d H)
  refine ⟨tPlain t, gss_pss (pt _ (cs_gen S.nd hr)), ?_⟩
  obtain ⟨hl, w, sto, ds, rfl, rel, rs, q⟩ := h
  have sl := entry_slots (G := M.G) (w := w) (nl := nl) (N := N) (by rw [hN, hl]) rs
  refine st w _ _ sto _ rel sl ?_
  unfold fnD at q
  cases e : g (ds.map some ++ List.replicate nl none) sto with
  | stk => rw [e] at q; exact (show False from q).elim
  | ex c sd1 st1 =>
    rw [e] at q
    exact fun w2 sv cls dd s2 r2 _ rx => finX_ok rel q s2 r2 rx
  | go fl sd1 st1 =>
    rw [e] at q
    cases fl with
    | brk => exact (show False from q).elim
    | cnt => exact (show False from q).elim
    | nx => exact fun w2 sv s2 r2 _ => (fin_ok rel q s2 r2 .non).2
    | ret d => exact fun w2 v s2 r2 rv => fin_ok rel q s2 r2 rv
def HasGn (M : Mo) (x : Str) (j : Nat) (ps : List Str) (sp : SpG) : Prop := ∃ fd a, GFn M.P M.w M.K M.mg M.base j a fd ps sp ∧ M.mg x = some (.ref a) ∧ PySem.W.keepIn M.K (.ref a) = true ∧ L2.Binds M.K fd ps []
/-- the class ends no iterator -/
def NSt (M : Mo) (y : Str) : Prop := ∀ v, M.mg y = some v → PySem.W.subIn M.K v (.type "StopIteration") = some false
def fLGen (n : Nat) (ff : FF) (ys : List Str) (fa : EA) : EA := fun sd st => (fa sd st).bind fun ds st1 => match callD n ff st1 ds with
  | .ok .non st2 => .ok [] st2
  | .ex c st2 => (match c.cls with
    | .glo y => if ys.contains y = true then .ex c st2 else .stk
    | _ => .stk)
  | _ => .stk
theorem sf_lgen {n : Nat} {ff : FF} {ys : List Str} {fs : EA} {ta : TA} {E : XK} (hns : ∀ y, ys.contains y = true → NSt M y) (ha : SA M.G (EW fun cls d _ H => E cls d H) ta fs) :
    SF M.G (EW fun cls d _ H => E cls d H) (tListG (tCallG (spG M.G n ff) [] (fun cls d H => E cls d H ∧ PySem.W.subIn M.K cls (.type "StopIteration") = some false) ta)) (fLGen n ff ys fs) := by
  intro w sv sd st Q rel sl h
  refine ha w sv sd st _ rel sl ((Post.bind h).imp ?_)
  rintro vs _ ⟨w1, ds, st1, rfl, s1, r1, rs, h1⟩
  have h1 := h1.step anF s1
  show spG M.G n ff (vs ++ []) w1.H _ _
  rw [List.append_nil]
  refine callD_ok r1 rs ?_
  cases e : callD n ff st1 ds with
  | stk => rw [e] at h1; exact h1.elim
  | ex c st2 =>
    rw [e] at h1
    intro w2 cls dd s2 r2 rx
    have h2 : Post M.G (RF M.G) w1 (match c.cls with
      | .glo y => if ys.contains y = true then Res.ex c st2 else .stk
      | _ => .stk) Q E := h1
    cases ec : c.cls with
    | glo y =>
      rw [ec] at h2
      by_cases hy : ys.contains y = true
      · have h3 : Post M.G (RF M.G) w1 (if ys.contains y = true then Res.ex c st2 else .stk) Q E := h2
        rw [if_pos hy] at h3
        refine ⟨h3 w2 cls dd s2 r2 rx, hns y hy cls ?_⟩
        have z := rx.1
        rw [ec] at z
        exact z
      · have h3 : Post M.G (RF M.G) w1 (if ys.contains y = true then Res.ex c st2 else .stk) Q E := h2
        rw [if_neg hy] at h3
        exact h3.elim
    | _ => rw [ec] at h2; exact h2.elim
  | ok d st2 =>
    rw [e] at h1
    cases d with
    | non =>
      intro w2 v s2 r2 rv
      have h1 : Post M.G (RF M.G) w1 (Res.ok [] st2) Q E := h1
      refine ⟨by cases rv; rfl, fun p hp => ?_⟩
      have k := fresh_lst r2 hp (ds := []) (vs := []) Reps.nil
      exact h1 ⟨w2.I, w2.ph, upd w2.H p (.lst [])⟩ _ (s2.trans k.1) k.2 ⟨p, [], rfl, s2.live p (.inl hp), r2.notIn hp, r2.noI hp, upd_same, Reps.nil⟩
    | _ => exact (show False from h1).elim
/-- list(g(..)), g hands nothing out -/
theorem df_lgen {j n : Nat} {ps : List Str} {ff : FF} {fs : EA} {E : XK} {e : Expr} {es : List Expr} {p p2 pos pos2 : Pos} (ys : List Str) (h : HasGn M x j ps (spG M.G n ff)) (hj : j + 3 ≤ k) (hns : ∀ y, ys.contains y = true → NSt M y) (hl : M.mg "list" = none) (ha : DA M k (fun cls d _ H => E cls d H) N sc (e :: es) fs)
    (hg : ∀ env : Env, ({ env with scope := sc.v } : Env).kindOf "list" = some .globalImplicit := by intro _; rfl) (hg2 : ∀ env : Env, ({ env with scope := sc.v } : Env).kindOf x = some .globalImplicit := by intro _; rfl)
    (hs : ∀ env : Env, starEach (e :: es) env = (false, eval e env) :: starEach es env := by intro _; rfl) (hp : ∀ env : Env, ((backTo pos2 (starEach es env)).any (·.1)) = false := by intro _; rfl) (h1 : (x == ("__debug__" : Str)) = false := by rfl)
    (hs2 : ∀ env : Env, starEach [.Call (.Name x p2) (e :: es) [] pos2] env = (false, eval (.Call (.Name x p2) (e :: es) [] pos2) env) :: starEach [] env := by intro _; rfl) :
    DF M k (fun cls d _ H => E cls d H) N sc (.Call (.Name "list" p) [.Call (.Name x p2) (e :: es) [] pos2] [] pos) (fLGen n ff ys fs) := by
  obtain ⟨fd, a, F, gm, kp, B⟩ := h
  obtain ⟨ta, pa, sa⟩ := ha
  refine ⟨_, fun X c => ?_, sf_lgen (n := n) (ff := ff) hns sa⟩
  have c0 := c
  obtain ⟨eP, ew, eK, em, eb, eN, eS, ecalm, rm, nd, fn, pass, hla, _, _⟩ := c
  cases X
  subst eP ew eK em eb
  refine pe_listG (pgen_call F (rm.mono (by omega)) (gl_of c0 hg2) gm kp B .nil (pa _ c0) h1 (hs _) (hp _)) (fun pins σ H s e s' I hc => pass σ pins H s e s' I ?_) (fun cls d H z => z.2) (rm.mono hj) (gl_of c0 hg) hl (by decide +kernel) (by decide) rfl (hs2 _)
  obtain ⟨a, B, H', cls, d, z1, fl, z2, ub, z3, z4, z5, z6⟩ := hc
  exact ⟨a, B, H', cls, d, z1, fl, z2, ub, z3, z4, z5, z6.1⟩
theorem nst_nil : ∀ y, ([] : List Str).contains y = true → NSt M y := fun y h => by cases h
theorem nst_cons {z : Str} {ys : List Str} (h : NSt M z) (r : ∀ y, ys.contains y = true → NSt M y) : ∀ y, (z :: ys).contains y = true → NSt M y := fun y hy => by
  rw [List.contains_iff_mem] at hy
  rcases List.mem_cons.mp hy with e | e
  · rw [e]; exact h
  · exact r y (List.contains_iff_mem.mpr e)
def nstB (y : Str) : Bk := fun K => PySem.W.subIn K (.ref (He.ga K y)) (.type "StopIteration") == some false
theorem nst_of {y : Str} (h : M.mg y = some (.ref (He.ga M.K y))) (c : nstB y M.K = true) : NSt M y := fun v e => by
  rw [h] at e
  cases e
  unfold nstB at c
  simpa using c
end
end DS
namespace DS
open PySem PySem.Spec PyProof.Rows L2
def lenI1 : D → Option D
  | .int n => if 0 ≤ n ∧ n < 2 ^ 63 then some (.int n) else none
  | _ => none
def rLen1 : V → Hp → VK → Prop := fun z H Q => ∃ n, z = .int n ∧ (0 ≤ n ∧ n < 2 ^ 63) ∧ Q (.int n) H
theorem kept_int : Kept rLen1 lenI1 := fun G I ph v d d' H Q rv e q => by
  cases d with
  | int n =>
    replace e : (if 0 ≤ n ∧ n < 2 ^ 63 then some (D.int n) else none) = some d' := e
    split at e
    · rename_i hn
      cases e
      cases rv
      exact ⟨⟨n, rfl, hn, q⟩, rfl⟩
    · cases e
  | _ => cases e
def rNo : V → Hp → VK → Prop := fun _ _ _ => False
def noU : Sto → D → Option D := fun _ _ => none
def eLenO (tbl : List (Str × FF)) (fa : EE) : EE := fun sd st => (fa sd st).bind fun x st1 => (opU tbl lenI1 noU st1 x).noex
section
variable {M : Mo} {k : Nat} {W : WX} {N : List Str} {sc : Sc} {a : Expr} {fa : EE} {p pos : Pos}
theorem noPass {P : Program} {w : World} {X : Cx} {σ : L2.St} : PassesAt (L2.CX P w) X σ (fun _ _ _ => False) := fun pins H s e s' I h => by
  obtain ⟨_, _, _, _, _, _, _, _, _, _, _, _, z⟩ := h
  exact z.elim
theorem un_no : UnD M.G rNo noU := fun w st x dx d Q rel rx e q => nomatch e
theorem de_lenO {tbl : List (Str × FF)} {j : Nat} (ht : ∀ c ff, (c, ff) ∈ tbl → HasU M c "__len__" j ff) (hj : j + 1 ≤ k) (hm : M.mg "len" = none) (ha : DE M k W N sc a fa)
    (hg : ∀ env : Env, ({ env with scope := sc.v } : Env).kindOf "len" = some .globalImplicit := by intro _; rfl) (hs : ∀ env : Env, starEach [a] env = [(false, eval a env)] := by intro _; rfl) :
    DE M k W N sc (.Call (.Name "len" p) [a] [] pos) (eLenO tbl fa) := by
  obtain ⟨ta, pa, sa⟩ := ha
  refine ⟨tCB (fun xs H Q => ∃ x, xs = [x] ∧ (rNo x H Q ∨ rOU M tbl rLen1 (fun _ _ _ => False) x H Q)) (tCons ta tNil), fun X c => ?_, ?_⟩
  · have hc : CallR X (.builtin "len") (fun xs H Q => ∃ x, xs = [x] ∧ (rNo x H Q ∨ rOU M tbl rLen1 (fun _ _ _ => False) x H Q)) := by
      intro pins s σ H xs us Q I r h
      obtain ⟨x, rfl, h⟩ := h
      obtain ⟨u, rfl, ru⟩ := r.one
      rcases h with h | ⟨c', ff, C, aa, dx, vs, hm, hC, ex, hx, q⟩
      · exact h.elim
      obtain ⟨C', g', hC', h1, h2, F⟩ := ht c' ff hm
      rw [hC] at hC'
      cases hC'
      obtain ⟨eP, ew, eK, em, eb, eN, eS, ecalm, rm, nd, fn, pass, hla, hgd, hge⟩ := c
      cases X
      subst eP ew eK em eb
      subst ex
      obtain rfl : u = Value.ref aa := ru
      obtain ⟨sl, od, _, J, _⟩ := SlX.slt_inst I hx
      obtain ⟨mm, hF⟩ := I.fr
      have rm1 := (rm.mono hj).in1
      refine PySem.W.len_K hF I.ok.mod.kin J h1 h2 (wpAny_mono (run_fn1 (us := [.ref aa]) (vs := [.ref aa]) F rm1 I.env0.in1 noPass I (.cons rfl .nil) q) (fun z s' hz => ?_) fun _ _ z => z)
      obtain ⟨z', H', I', rz, n, ez, hn, qz⟩ := hz
      subst ez
      obtain ⟨t, rfl⟩ := (show ∃ t, z = Value.int n t from rz)
      exact ⟨hn, .int n, H', I'.tok _, ⟨_, rfl⟩, qz⟩
    exact pe_callB hc (gl_of c hg) (by rw [c.em]; exact hm) (by decide +kernel) (pa_cons (pa X c) pa_nil (by rw [hs]; rfl)) (by decide) (by rfl) (by rw [hs]; rfl) (by rfl)
  · intro w sv sd st Q rel sl h
    refine sa w sv sd st _ rel sl ((Post.bind h).imp ?_)
    rintro x _ ⟨w1, dx, st1, rfl, s1, r1, rx, h1⟩
    have h1 := h1.step anE s1
    exact ⟨x, rfl, opU_ok (P := rLen1) (r0 := rNo) kept_int un_no r1 rx (noex_post h1)⟩
end
end DS
namespace Gn
open PySem PySem.Spec PyProof.Rows L2 DS
def top (i : Nat) : Stmt := PySem.Challenge.pw_slopewords_k25_errors_of_operators.main.body.getD i (.Pass ⟨0, 0, 0, 0⟩)
def clsBody (s : Stmt) : List Stmt := match s with
  | .ClassDef _ _ _ b _ _ _ _ _ _ _ => b
  | _ => []
def mem (i j : Nat) : Stmt := (clsBody (top i)).getD j (.Pass ⟨0, 0, 0, 0⟩)
def clsL : List Str := ["Lowest", "Function", "KeptEntries", "Operator"]
def tab__law_fault : STab := [((.own "InvalidNumber", "InvalidNumber"), true), ((.own "InvalidNumber", "InvalidFunction"), false), ((.own "InvalidNumber", "InvalidOperator"), false), ((.own "InvalidNumber", "InvalidOperation"), false), ((.own "InvalidPoly", "InvalidNumber"), false), ((.own "InvalidPoly", "InvalidFunction"), false), ((.own "InvalidPoly", "InvalidOperator"), false), ((.own "InvalidPoly", "InvalidOperation"), false), ((.own "InvalidFunction", "InvalidNumber"), false), ((.own "InvalidFunction", "InvalidFunction"), true), ((.own "InvalidFunction", "InvalidOperator"), false), ((.own "InvalidFunction", "InvalidOperation"), false), ((.own "InvalidOperation", "InvalidNumber"), false), ((.own "InvalidOperation", "InvalidFunction"), false), ((.own "InvalidOperation", "InvalidOperator"), false), ((.own "InvalidOperation", "InvalidOperation"), true), ((.ty "TypeError", "InvalidNumber"), false), ((.ty "TypeError", "InvalidFunction"), false), ((.ty "TypeError", "InvalidOperator"), false), ((.ty "TypeError", "InvalidOperation"), false), ((.own "InvalidOperator", "InvalidNumber"), false), ((.own "InvalidOperator", "InvalidFunction"), false), ((.own "InvalidOperator", "InvalidOperator"), true), ((.own "InvalidOperator", "InvalidOperation"), false)]
end Gn
namespace Gn
open PySem PySem.Spec PyProof.Rows L2 DS
def mkD (x : Str) (i : Nat) (kwd : List (Str × He.Dv)) : DefA := ⟨fun K => He.ga K x, x, x, defArgs (top i), defBody (top i), defScope (top i), [], kwd⟩
def mkM (c m q : Str) (s : Stmt) (kwd : List (Str × He.Dv)) : DefA := ⟨fun K => He.ma K (He.ga K c) m, m, q, defArgs s, defBody s, defScope s, [], kwd⟩
def mkP (c m q : Str) (s : Stmt) (kwd : List (Str × He.Dv)) : DefA := ⟨fun K => prA K (He.ga K c) m, m, q, defArgs s, defBody s, defScope s, [], kwd⟩
def mkC (c m q : Str) (s : Stmt) (kwd : List (Str × He.Dv)) : DefA := ⟨fun K => cmA K (He.ga K c) m, m, q, defArgs s, defBody s, defScope s, [], kwd⟩
theorem tab_nil {P : Str → FF → Prop} : ∀ c ff, (c, ff) ∈ ([] : List (Str × FF)) → P c ff := fun _ _ h => nomatch h
theorem tab_cons {P : Str → FF → Prop} {c : Str} {ff : FF} {l : List (Str × FF)} (h : P c ff) (r : ∀ c ff, (c, ff) ∈ l → P c ff) : ∀ c' ff', (c', ff') ∈ (c, ff) :: l → P c' ff' := fun c' ff' m => by
  rcases List.mem_cons.mp m with e | m
  · cases e; exact h
  · exact r c' ff' m
def fnp0_0 : List DefA := [mkD "is_whole" 12 [], mkD "undone_number" 17 [], mkD "trimmed" 20 [], mkD "number_at" 22 [], mkM "Lowest" "__init__" "Lowest.__init__" (mem 33 1) [], mkP "Function" "degree" "Function.degree" (mem 34 8) [], mkM "Function" "__eq__" "Function.__eq__" (mem 34 20) [], mkD "require_function" 46 [], mkD "require_same_prime" 47 [], mkD "trimmed_entries" 53 [], mkM "KeptEntries" "__init__" "KeptEntries.__init__" (mem 61 1) [], mkD "entries_told" 62 [], mkP "Operator" "degree" "Operator.degree" (mem 66 7) [], mkM "Operator" "__len__" "Operator.__len__" (mem 66 20) [], mkD "require_operator" 67 [], mkD "_law_bag" 72 [], mkD "_law_grab" 73 [], mkD "is_integer" 13 [], mkD "is_within" 14 [], mkD "require_prime" 16 [], mkD "plus_in" 21 [], mkD "times_in" 23 [], mkD "scaled_poly" 24 [], mkD "divided_in" 25 [], mkD "slope_of_poly" 29 [], mkD "require_operand" 48 [], mkD "each_made" 70 [], mkD "_law_one_of" 74 [], mkD "require_within" 15 [], mkD "is_poly_any" 18 []]
def fnp0_1 : List DefA := [mkD "monic_in" 26 [], mkM "Operator" "__init__" "Operator.__init__" (mem 66 1) [], mkM "Operator" "__eq__" "Operator.__eq__" (mem 66 18) [], mkD "require_poly" 19 [], mkD "common_in" 27 [], mkD "lowest_pair" 37 [], mkD "made_operator" 54 [], mkM "Function" "__init__" "Function.__init__" (mem 34 1) [], mkC "Operator" "times" "Operator.times" (mem 66 4) [], mkC "Function" "number" "Function.number" (mem 34 2) [], mkM "Function" "__neg__" "Function.__neg__" (mem 34 18) [], mkD "made_function" 38 [], mkD "zero_of" 39 [], mkD "unit_of" 40 [], mkD "sum_of" 41 [], mkD "product_of" 42 [], mkD "undone_of" 43 [], mkD "slope_of" 45 [], mkC "Operator" "slopes" "Operator.slopes" (mem 66 2) [], mkC "Operator" "factor" "Operator.factor" (mem 66 3) [], mkM "Operator" "entry" "Operator.entry" (mem 66 9) [], mkM "Function" "__add__" "Function.__add__" (mem 34 14) [], mkM "Function" "__sub__" "Function.__sub__" (mem 34 15) [], mkM "Function" "__mul__" "Function.__mul__" (mem 34 16) [], mkM "Function" "__floordiv__" "Function.__floordiv__" (mem 34 17) [], mkD "is_of_t" 60 [], mkD "sum_in" 55 [], mkD "scaled_in" 56 [], mkD "slope_ahead" 57 [], mkD "applied_to" 59 []]
def fnp0_2 : List DefA := [mkD "is_central" 69 [], mkD "product_in" 58 [], mkM "Operator" "led" "Operator.led" (mem 66 10) [], mkM "Operator" "monic" "Operator.monic" (mem 66 11) [], mkM "Operator" "__call__" "Operator.__call__" (mem 66 12) [], mkM "Operator" "__add__" "Operator.__add__" (mem 66 13) [], mkM "Operator" "__sub__" "Operator.__sub__" (mem 66 14) [], mkD "raised_operator" 65 [], mkM "Operator" "__mul__" "Operator.__mul__" (mem 66 15) [], mkD "commutator" 68 [], mkM "Operator" "__pow__" "Operator.__pow__" (mem 66 17) [], mkD "_law_made_right" 76 [], mkD "_law_used_right" 77 [], mkD "law" 78 [], mkD "_law_fault" 75 []]
def fnp0_ : List DefA := fnp0_0 ++ (fnp0_1 ++ (fnp0_2))
def fnl : List DefA := fnp0_
def tfl0 : List LamDef := [(fun K => He.ga K "_law_made_right", lamQ "_law_made_right"), (fun K => He.ga K "_law_used_right", lamQ "_law_used_right")]
def tfl : List LamDef := tfl0
def inl0 : List IniD := [⟨"InvalidNumber", "InvalidNumber.__init__", defArgs (mem 7 0), defBody (mem 7 0), defScope (mem 7 0)⟩]
def inl : List IniD := inl0
def fileP : Str := (PySem.Challenge.rw_slopewords_k25_errors_of_operators).prog.main.file
def fal0 : List He.Fa := [.glo "is_whole", .glo "undone_number", .glo "trimmed", .glo "number_at", .glo "require_function", .glo "require_same_prime", .glo "trimmed_entries", .glo "entries_told", .glo "require_operator", .glo "_law_bag", .glo "_law_grab", .glo "is_integer", .glo "is_within", .glo "require_prime", .glo "plus_in", .glo "times_in", .glo "scaled_poly", .glo "divided_in", .glo "slope_of_poly", .glo "require_operand", .glo "each_made", .glo "_law_one_of", .glo "require_within", .glo "is_poly_any", .glo "monic_in", .glo "require_poly", .glo "common_in", .glo "lowest_pair", .glo "made_operator", .glo "made_function"]
def fal1 : List He.Fa := [.glo "zero_of", .glo "unit_of", .glo "sum_of", .glo "product_of", .glo "undone_of", .glo "slope_of", .glo "is_of_t", .glo "sum_in", .glo "scaled_in", .glo "slope_ahead", .glo "applied_to", .glo "is_central", .glo "product_in", .glo "raised_operator", .glo "commutator", .glo "_law_made_right", .glo "_law_used_right", .glo "law", .glo "_law_fault", .glo "Lowest", .glo "Function", .glo "KeptEntries", .glo "Operator", .glo "InvalidFunction", .glo "InvalidOperation", .glo "InvalidOperator", .glo "InvalidPoly", .glo "InvalidNumber", .free "int", .free "isinstance"]
def fal2 : List He.Fa := [.free "bool", .free "tuple", .free "len", .free "list", .free "all", .free "any", .free "abs", .free "max", .free "range", .free "enumerate", .free "TypeError", .free "zip", .free "repr", .free "min", .free "super", .int "MAX_ENTRIES" 9, .int "MOST_FIGURES" 1000000000000000000000000000000000000000000000000000000000000, .glo "PRIMES", .int "MAX_POWER" 60, .int "MAX_RAISED_operators" 8, .int "MOST_INDEX" 1000]
def fal : List He.Fa := fal0 ++ (fal1 ++ (fal2))
def exl0 : List Bk := [(fun K => He.tupB K "PRIMES" ([2, 3, 5, 7].map He.Dv.int)), (isiK clsL), (errB "InvalidNumber" "given" "InvalidNumber.__init__" fileP "IndexError" "IndexError.__new__" "IndexError.__init__" [.type "IndexError", .type "LookupError", .type "Exception", .type "BaseException", .type "object"]), (nstB "InvalidOperation"), (nstB "InvalidFunction"), (nstB "InvalidOperator"), (xownK "InvalidFunction"), (xownK "InvalidOperation"), (xownK "InvalidOperator"), (xownK "InvalidPoly"), (tabB tab__law_fault), (eqK "Function"), (sobB "KeptEntries" ["own_kept"]), (mkK "KeptEntries"), (sobB "Operator" ["own_entries", "own_prime"]), (mkK "Operator"), (sobB "Lowest" ["own_pair"]), (mkK "Lowest"), (sobB "Function" ["own_bottom", "own_prime", "own_top"]), (mkK "Function"), (unK "Function" "__neg__"), (binK "Function" "__sub__"), (binK "Function" "__mul__"), (binK "Function" "__add__"), (binK "Function" "__floordiv__"), (btK "Operator" .Pow), (cmK "Function" "number"), (binK "Operator" "__mul__"), (cmK "Operator" "slopes"), (binK "Operator" "__add__")]
def exl1 : List Bk := [(cmK "Operator" "factor"), (cmK "Operator" "times"), (callK "Operator"), (methK "Operator" "led"), (methK "Operator" "entry"), (methK "Operator" "monic"), (binK "Operator" "__sub__"), (propK "Operator" "degree"), (propK "Function" "degree"), (eqK "Operator"), (unK "Operator" "__len__")]
def exl : List Bk := exl0 ++ (exl1)
def loose0 : List Str := ["_wall", "is_whole", "is_integer", "is_within", "require_within", "require_prime", "undone_number", "is_poly_any", "require_poly", "trimmed", "plus_in", "number_at", "times_in", "scaled_poly", "divided_in", "monic_in", "common_in", "raised_in", "slope_of_poly", "term_text", "poly_text", "lowest_pair", "made_function", "zero_of", "unit_of", "sum_of", "product_of", "undone_of", "power_of", "slope_of"]
def loose1 : List Str := ["require_function", "require_same_prime", "require_operand", "trimmed_entries", "made_operator", "sum_in", "scaled_in", "slope_ahead", "product_in", "applied_to", "is_of_t", "entries_told", "entry_text", "entries_text", "raised_operator", "require_operator", "commutator", "is_central", "each_made", "_law_bag", "_law_grab", "_law_one_of", "_law_fault", "_law_made_right", "_law_used_right", "SlopeError", "InvalidPoly", "InvalidFunction", "InvalidOperator", "InvalidOperation"]
def loose2 : List Str := ["InvalidNumber", "Lowest", "Function", "KeptEntries", "Operator", "PRIMES", "MAX_POWER", "MOST_FIGURES", "MAX_SLOPES", "MAX_RAISED_functions", "MAX_ENTRIES", "MAX_RAISED_operators", "MOST_INDEX"]
def loose : List Str := loose0 ++ (loose1 ++ (loose2))
abbrev Rr : PySem.W.OpenRow := PySem.W.OpenLaw.row PySem.Challenge.rw_slopewords_k25_errors_of_operators
abbrev hkk : PySem.W.Hook := hookI 5 fal exl fnl inl tfl
def obb (s : PySem.W.SharedT) : AlI := obsIG 5 fal exl fnl inl tfl (HandSHeadRun.getT s)
theorem obb_eq (s : PySem.W.SharedT) : obb s = hkk.obs s.abs := obsIG_eq (HandSHeadRun.getT_eq s)
abbrev viewQ : Program := PySem.W.view Rr.prog [78]
theorem opt_join {S A B C E F : Type} {o : Option S} {fa : S → A} {fb : S → B} {fc : S → (C × E) × F} {a : A} {b : B} {c : C} {e : E} {f : F} (h1 : o.map (fun s => (fa s, fb s)) = some (a, b)) (h2 : o.map (fun s => (fc s).1.1) = some c) (h3 : o.map (fun s => ((fc s).1.2, (fc s).2)) = some (e, f)) : o.map (fun s => (fa s, fb s, fc s)) = some (a, b, ((c, e), f)) := by
  cases o with
  | none => cases h1
  | some s =>
    have h1 : (fa s, fb s) = (a, b) := Option.some.inj h1
    have h2 : (fc s).1.1 = c := Option.some.inj h2
    have h3 : ((fc s).1.2, (fc s).2) = (e, f) := Option.some.inj h3
    have e1 : fa s = a := congrArg Prod.fst h1
    have e2 : fb s = b := congrArg Prod.snd h1
    have q1 : (fc s).1.2 = e := congrArg (fun z : E × F => z.1) h3
    have q2 : (fc s).2 = f := congrArg (fun z : E × F => z.2) h3
    have e3 : fc s = ((c, e), f) := Prod.ext (Prod.ext h2 q1) q2
    show some (fa s, fb s, fc s) = _
    rw [e1, e2, e3]
theorem runs_a (w : World) : ∀ os : PySem.OsState, (HandSHeadRun.endF (HandSHeadRun.stepQ (HandSHeadRun.denQ HandSHeadRun.tabQ) Rr.prog w) 16000 Rr.prog w os).map (fun s => (HandSHeadRun.looksF Rr.prog (PySem.W.boot_heap w.params) s.abs, HandSHeadRun.seenQ viewQ loose (PySem.importedModules Rr.prog.main.body) (fun s => PySem.W.xlAt viewQ [] s && PySem.W.recOk Rr.toRowW.records s) s.abs)) = some (true, PySem.W.openGood viewQ loose) := by
  intro os
  kernel_rfl
theorem runs_b1 (w : World) : ∀ os : PySem.OsState, (HandSHeadRun.endF (HandSHeadRun.stepQ (HandSHeadRun.denQ HandSHeadRun.tabQ) Rr.prog w) 16000 Rr.prog w os).map (fun s => obF 5 (fun K => fal.all fun f => f.ok K) (HandSHeadRun.getT s)) = some true := by
  intro os
  kernel_rfl
theorem runs_b2 (w : World) : ∀ os : PySem.OsState, (HandSHeadRun.endF (HandSHeadRun.stepQ (HandSHeadRun.denQ HandSHeadRun.tabQ) Rr.prog w) 16000 Rr.prog w os).map (fun s => obF 5 (fun K => exl.all fun b => b K) (HandSHeadRun.getT s)) = some true := by
  intro os
  kernel_rfl
theorem runs_b3 (w : World) : ∀ os : PySem.OsState, (HandSHeadRun.endF (HandSHeadRun.stepQ (HandSHeadRun.denQ HandSHeadRun.tabQ) Rr.prog w) 16000 Rr.prog w os).map (fun s => obF 5 (fun K => (fnl).all fun d => d.ok K) (HandSHeadRun.getT s)) = some true := by
  intro os
  kernel_rfl
theorem runs_b (w : World) : ∀ os : PySem.OsState, (HandSHeadRun.endF (HandSHeadRun.stepQ (HandSHeadRun.denQ HandSHeadRun.tabQ) Rr.prog w) 16000 Rr.prog w os).map (fun s => (obb s).1.1) = some true := fun os => obs_parts (runs_b1 w os) (runs_b2 w os) (runs_b3 w os)
theorem runs_c (w : World) : ∀ os : PySem.OsState, (HandSHeadRun.endF (HandSHeadRun.stepQ (HandSHeadRun.denQ HandSHeadRun.tabQ) Rr.prog w) 16000 Rr.prog w os).map (fun s => ((obb s).1.2, (obb s).2)) = some (fnl.map DefA.val, inl.map IniD.val, true) := by
  intro os
  kernel_rfl
theorem runs (w : World) : HandSHeadRun.RunEq Rr viewQ hkk obb 16000 loose w := fun os => opt_join (runs_a w os) (runs_b w os) (runs_c w os)
end Gn
namespace Gn
open PySem PySem.Spec PyProof.Rows L2 DS
def c_PRIMES : D := .tup [.int 2, .int 3, .int 5, .int 7]
def c_MAX_POWER : D := .int 60
def c_MOST_FIGURES : D := .int 1000000000000000000000000000000000000000000000000000000000000
def c_MAX_ENTRIES : D := .int 9
def c_MAX_RAISED_operators : D := .int 8
def c_MOST_INDEX : D := .int 1000
def Nm__law_fault : List Str := ["call", "error"]
theorem sc_met__law_fault : FnScope Nm__law_fault ["call"] (defScope (top 75)) := ⟨rfl, rfl, rfl, by decide +kernel, rfl, by decide +kernel, by decide +kernel⟩
def hs__law_fault : List Hnd := [("InvalidNumber", (xTup (xCons (xStr "refused") (xCons (xAdd (xStr "number ") (xRep (xFld "InvalidNumber" "given"))) xNil)))), ("InvalidFunction", (xTup (xCons (xStr "refused") (xCons (xStr "function") xNil)))), ("InvalidOperator", (xTup (xCons (xStr "refused") (xCons (xStr "operator") xNil)))), ("InvalidOperation", (xTup (xCons (xStr "refused") (xCons (xStr "operation") xNil))))]
def N_is_whole : List Str := ["value"]
def P_is_whole : List Str := ["value"]
abbrev S_is_whole : Scope := defScope (top 12)
def n_is_whole : SS := (sRet (eAndV (eCB (isiO clsL) (aCons (eVar 0) (aCons (eC (.ty "int")) aNil))) (eNotV (eCB (isiO clsL) (aCons (eVar 0) (aCons (eC (.ty "bool")) aNil))))))
def f_is_whole : FF := fnD 0 n_is_whole
def N_undone_number : List Str := ["prime", "number", "found", "square", "left"]
def P_undone_number : List Str := ["prime", "number"]
abbrev S_undone_number : Scope := defScope (top 17)
def t_undone_number_1 : ET := (eTest (eOp (ints2 fun i j => some (.bl (decide (j < i)))) (eVar 4) (eC (.int 0))))
def y_undone_number_1 : SS := (sSeq (sSet 2 (eIf (eTest (eOp eqD (eOp (ints2 modI) (eVar 4) (eC (.int 2))) (eC (.int 1)))) (eOp (ints2 modI) (eOp mulD (eVar 2) (eVar 3)) (eVar 0)) (eVar 2))) (sPar2 3 4 (aCons (eOp (ints2 modI) (eOp mulD (eVar 3) (eVar 3)) (eVar 0)) (aCons (eOp (ints2 divI) (eVar 4) (eC (.int 2))) aNil))))
def w_undone_number_1 : SS := (sLoop t_undone_number_1 y_undone_number_1 100000)
def n_undone_number : SS := (sSeq (sPar3 2 3 4 (aCons (eC (.int 1)) (aCons (eOp (ints2 modI) (eVar 1) (eVar 0)) (aCons (eOp (ints2 fun i j => some (.int (i - j))) (eVar 0) (eC (.int 2))) aNil)))) (sSeq w_undone_number_1 (sRet (eVar 2))))
def f_undone_number : FF := fnD 3 n_undone_number
def N_trimmed : List Str := ["prime", "numbers", "found", "number"]
def P_trimmed : List Str := ["prime", "numbers"]
abbrev S_trimmed : Scope := defScope (top 20)
def e_trimmed_1 : EE := (eOp (ints2 modI) (eVar 3) (eVar 0))
def q_trimmed_1 : EA := (fLc (iSeq (eVar 1)) (gNameD 3) eYes e_trimmed_1 [3])
def t_trimmed_1 : ET := (eAnd (eTest (eOp neD (eVar 2) (eFz (fLst aNil)))) (eTest (eOp eqD (eOp ixD (eVar 2) (eUn negD (eC (.int 1)))) (eC (.int 0)))))
def y_trimmed_1 : SS := (sDrop (ePop (eVar 2)))
def w_trimmed_1 : SS := (sLoop t_trimmed_1 y_trimmed_1 100000)
def n_trimmed : SS := (sSeq (sSet 2 (eHnd q_trimmed_1)) (sSeq w_trimmed_1 (sRet (eCB tupleD (aCons (eVar 2) aNil)))))
def f_trimmed : FF := fnD 2 n_trimmed
def N_number_at : List Str := ["poly", "place"]
def P_number_at : List Str := ["poly", "place"]
abbrev S_number_at : Scope := defScope (top 22)
def n_number_at : SS := (sRet (eIf (eTest (eOp (ints2 fun i j => some (.bl (decide (i < j)))) (eVar 1) (eCB lenD (aCons (eVar 0) aNil)))) (eOp ixD (eVar 0) (eVar 1)) (eC (.int 0))))
def f_number_at : FF := fnD 0 n_number_at
def N_Lowest___init__ : List Str := ["self", "pair"]
def P_Lowest___init__ : List Str := ["self", "pair"]
abbrev S_Lowest___init__ : Scope := defScope (mem 33 1)
def n_Lowest___init__ : SS := (sAtt "own_pair" (eVar 1) (eVar 0))
def f_Lowest___init__ : FF := fnD 0 n_Lowest___init__
def N_Function_degree : List Str := ["self"]
def P_Function_degree : List Str := ["self"]
abbrev S_Function_degree : Scope := defScope (mem 34 8)
def n_Function_degree : SS := (sRet (eIf (eTest (eOp neE (eUn (atD "own_top") (eVar 0)) (eTup aNil))) (eOp (ints2 fun i j => some (.int (i - j))) (eCB lenD (aCons (eUn (atD "own_top") (eVar 0)) aNil)) (eCB lenD (aCons (eUn (atD "own_bottom") (eVar 0)) aNil))) (eC .non)))
def f_Function_degree : FF := fnD 0 n_Function_degree
def N_Function___eq__ : List Str := ["self", "other"]
def P_Function___eq__ : List Str := ["self", "other"]
abbrev S_Function___eq__ : Scope := defScope (mem 34 20)
def n_Function___eq__ : SS := (sSeq (sIf (eOr (eNot (eTest (eCB (isiO clsL) (aCons (eVar 1) (aCons (eC (.glo "Function")) aNil))))) (eTest (eOp neD (eUn (atD "own_prime") (eVar 0)) (eUn (atD "own_prime") (eVar 1))))) (sRet (eC (.bl false))) sNext) (sRet (eAndV (eOp eqD (eUn (atD "own_top") (eVar 0)) (eUn (atD "own_top") (eVar 1))) (eOp eqD (eUn (atD "own_bottom") (eVar 0)) (eUn (atD "own_bottom") (eVar 1))))))
def f_Function___eq__ : FF := fnD 0 n_Function___eq__
def N_require_function : List Str := ["value"]
def P_require_function : List Str := ["value"]
abbrev S_require_function : Scope := defScope (top 46)
def n_require_function : SS := (sIf (eNot (eTest (eCB (isiO clsL) (aCons (eVar 0) (aCons (eC (.glo "Function")) aNil))))) (sRaise ⟨.glo "InvalidFunction", none⟩) sNext)
def f_require_function : FF := fnD 0 n_require_function
def N_require_same_prime : List Str := ["one", "other"]
def P_require_same_prime : List Str := ["one", "other"]
abbrev S_require_same_prime : Scope := defScope (top 47)
def n_require_same_prime : SS := (sIf (eTest (eOp neD (eUn (atD "own_prime") (eVar 0)) (eUn (atD "own_prime") (eVar 1)))) (sRaise ⟨.glo "InvalidOperation", none⟩) sNext)
def f_require_same_prime : FF := fnD 0 n_require_same_prime
def N_trimmed_entries : List Str := ["entries", "found"]
def P_trimmed_entries : List Str := ["entries"]
abbrev S_trimmed_entries : Scope := defScope (top 53)
def t_trimmed_entries_1 : ET := (eAnd (eTest (eOp neE (eVar 1) (eFz (fLst aNil)))) (eTest (eOp eqE (eUn (atD "own_top") (eOp ixD (eVar 1) (eUn negD (eC (.int 1))))) (eTup aNil))))
def y_trimmed_entries_1 : SS := (sDrop (ePop (eVar 1)))
def w_trimmed_entries_1 : SS := (sLoop t_trimmed_entries_1 y_trimmed_entries_1 100000)
def n_trimmed_entries : SS := (sSeq (sSet 1 (eHnd (fCB listD (aCons (eVar 0) aNil)))) (sSeq w_trimmed_entries_1 (sRet (eCB tupleD (aCons (eVar 1) aNil)))))
def f_trimmed_entries : FF := fnD 1 n_trimmed_entries
def N_KeptEntries___init__ : List Str := ["self", "entries"]
def P_KeptEntries___init__ : List Str := ["self", "entries"]
abbrev S_KeptEntries___init__ : Scope := defScope (mem 61 1)
def n_KeptEntries___init__ : SS := (sAtt "own_kept" (eVar 1) (eVar 0))
def f_KeptEntries___init__ : FF := fnD 0 n_KeptEntries___init__
def N_entries_told : List Str := ["prime", "value", "entry"]
def P_entries_told : List Str := ["prime", "value"]
abbrev S_entries_told : Scope := defScope (top 62)
def e_entries_told_1 : EE := (eCB (isiO clsL) (aCons (eVar 2) (aCons (eC (.glo "Function")) aNil)))
def q_entries_told_1 : EA := (fLc (iSeq (eVar 1)) (gNameD 2) eYes e_entries_told_1 [2])
def e_entries_told_2 : EE := (eOp neD (eUn (atD "own_prime") (eVar 2)) (eVar 0))
def q_entries_told_2 : EA := (fLc (iSeq (eVar 1)) (gNameD 2) eYes e_entries_told_2 [2])
def n_entries_told : SS := (sSeq (sIf (eTest (eCB (isiO clsL) (aCons (eVar 1) (aCons (eC (.glo "KeptEntries")) aNil)))) (sRet (eUn (atD "own_kept") (eVar 1))) sNext) (sSeq (sIf (eOr (eNot (eTest (eCB (isiO clsL) (aCons (eVar 1) (aCons (eC (.ty "tuple")) aNil))))) (eTest (eOp (ints2 fun i j => some (.bl (decide (j < i)))) (eCB lenD (aCons (eVar 1) aNil)) (eC c_MAX_ENTRIES)))) (sRaise ⟨.glo "InvalidOperator", none⟩) sNext) (sSeq (sIf (eOr (eNot (eTest (eCB (onB fun bs => some (.bl (bs.all id))) (aCons (eFz q_entries_told_1) aNil)))) (eAnd (eTest (eOp neE (eVar 1) (eTup aNil))) (eTest (eOp eqE (eUn (atD "own_top") (eOp ixD (eVar 1) (eUn negD (eC (.int 1))))) (eTup aNil))))) (sRaise ⟨.glo "InvalidOperator", none⟩) sNext) (sSeq (sIf (eTest (eCB (onB fun bs => some (.bl (bs.any id))) (aCons (eFz q_entries_told_2) aNil))) (sRaise ⟨.glo "InvalidOperation", none⟩) sNext) (sRet (eVar 1))))))
def f_entries_told : FF := fnD 1 n_entries_told
def N_Operator_degree : List Str := ["self"]
def P_Operator_degree : List Str := ["self"]
abbrev S_Operator_degree : Scope := defScope (mem 66 7)
def n_Operator_degree : SS := (sRet (eOp (ints2 fun i j => some (.int (i - j))) (eCB lenD (aCons (eUn (atD "own_entries") (eVar 0)) aNil)) (eC (.int 1))))
def f_Operator_degree : FF := fnD 0 n_Operator_degree
def N_Operator___len__ : List Str := ["self"]
def P_Operator___len__ : List Str := ["self"]
abbrev S_Operator___len__ : Scope := defScope (mem 66 20)
def n_Operator___len__ : SS := (sRet (eCB lenD (aCons (eUn (atD "own_entries") (eVar 0)) aNil)))
def f_Operator___len__ : FF := fnD 0 n_Operator___len__
def N_require_operator : List Str := ["value"]
def P_require_operator : List Str := ["value"]
abbrev S_require_operator : Scope := defScope (top 67)
def n_require_operator : SS := (sIf (eNot (eTest (eCB (isiO clsL) (aCons (eVar 0) (aCons (eC (.glo "Operator")) aNil))))) (sRaise ⟨.glo "InvalidOperator", none⟩) sNext)
def f_require_operator : FF := fnD 0 n_require_operator
def N__law_bag : List Str := ["script", "spot", "cell", "great", "mixed"]
def P__law_bag : List Str := ["script", "spot"]
abbrev S__law_bag : Scope := defScope (top 72)
def n__law_bag : SS := (sSeq (sSet 2 (eIf (eTest (eOp (ints2 fun i j => some (.bl (decide (i < j)))) (eVar 1) (eCB lenD (aCons (eVar 0) aNil)))) (eOp ixD (eVar 0) (eVar 1)) (eOp addD (eOp mulD (eC (.int 127)) (eVar 1)) (eC (.int 61))))) (sSeq (sSet 3 (eOp (ints2 modI) (eCB intOf (aCons (eCB absD (aCons (eVar 2) aNil)) aNil)) (eOp mulD (eOp (ints2 powI) (eC (.int 10)) (eC (.int 59))) (eOp (ints2 powI) (eC (.int 10)) (eC (.int 60)))))) (sSeq (sSet 4 (eOp addD (eOp addD (eOp addD (eOp mulD (eOp (ints2 modI) (eVar 3) (eC (.int 1152921504606846883))) (eC (.int 83))) (eOp mulD (eC (.int 1009)) (eVar 1))) (eOp mulD (eC (.int 47)) (eCB intOf (aCons (eOp (ints2 fun i j => some (.bl (decide (i < j)))) (eVar 2) (eC (.int 0))) aNil)))) (eC (.int 29)))) (sRet (eHnd (fLst (aCons (eCB max2D (aCons (eC (.int 0)) (aCons (eOp (ints2 fun i j => some (.int (i - j))) (eVar 3) (eOp (ints2 powI) (eC (.int 10)) (eC (.int 17)))) aNil))) (aCons (eOp (ints2 modI) (eCB intOf (aCons (eVar 4) aNil)) (eC (.int 2305843009213693951))) (aCons (eC (.int 0)) aNil)))))))))
def f__law_bag : FL := fnL 3 n__law_bag
def N__law_grab : List Str := ["bag", "total", "one", "two", "found"]
def P__law_grab : List Str := ["bag", "total"]
abbrev S__law_grab : Scope := defScope (top 73)
def n__law_grab : SS := (sSeq (sIf (eTest (eOp (ints2 fun i j => some (.bl (decide (j < i)))) (eOp ixD (eVar 0) (eC (.int 0))) (eC (.int 0)))) (sSeq (sSet 4 (eOp (ints2 modI) (eCB intOf (aCons (eOp ixD (eVar 0) (eC (.int 0))) aNil)) (eVar 1))) (sSeq (sPut (eOp (ints2 divI) (eOp ixD (eVar 0) (eC (.int 0))) (eVar 1)) (eVar 0) (eC (.int 0))) (sRet (eVar 4)))) sNext) (sSeq (sPut (eOp addD (eOp ixD (eVar 0) (eC (.int 2))) (eC (.int 1))) (eVar 0) (eC (.int 2))) (sSeq (sSet 2 (eOp (ints2 modI) (eCB intOf (aCons (eOp addD (eOp ixD (eVar 0) (eC (.int 1))) (eOp mulD (eC (.int 67867979)) (eOp ixD (eVar 0) (eC (.int 2))))) aNil)) (eC (.int 2305843009213693951)))) (sSeq (sSet 3 (eOp addD (eOp mulD (eOp (ints2 modI) (eCB intOf (aCons (eOp addD (eOp mulD (eVar 2) (eVar 2)) (eOp mulD (eC (.int 101)) (eOp ixD (eVar 0) (eC (.int 2))))) aNil)) (eC (.int 2305843009213693921))) (eC (.int 4256233))) (eVar 2))) (sRet (eOp (ints2 modI) (eCB intOf (aCons (eOp (ints2 divI) (eVar 3) (eC (.int 65537))) aNil)) (eVar 1)))))))
def f__law_grab : FF := fnD 3 n__law_grab
def N_is_integer : List Str := ["value"]
def P_is_integer : List Str := ["value"]
abbrev S_is_integer : Scope := defScope (top 13)
def n_is_integer : SS := (sRet (eAndV (eCal 1 f_is_whole [] (aCons (eVar 0) aNil)) (eChain (ints2 fun i j => some (.bl (decide (i < j)))) (ints2 fun i j => some (.bl (decide (i < j)))) (eUn negD (eC c_MOST_FIGURES)) (eVar 0) (eC c_MOST_FIGURES))))
def f_is_integer : FF := fnD 0 n_is_integer
def N_is_within : List Str := ["value", "low", "high"]
def P_is_within : List Str := ["value", "low", "high"]
abbrev S_is_within : Scope := defScope (top 14)
def n_is_within : SS := (sRet (eAndV (eCal 1 f_is_whole [] (aCons (eVar 0) aNil)) (eChain (ints2 fun i j => some (.bl (decide (i ≤ j)))) (ints2 fun i j => some (.bl (decide (i ≤ j)))) (eVar 1) (eVar 0) (eVar 2))))
def f_is_within : FF := fnD 0 n_is_within
def N_require_prime : List Str := ["value"]
def P_require_prime : List Str := ["value"]
abbrev S_require_prime : Scope := defScope (top 16)
def n_require_prime : SS := (sIf (eOr (eNot (eTest (eCal 1 f_is_whole [] (aCons (eVar 0) aNil)))) (eTest (eOp (inD true) (eVar 0) (eC c_PRIMES)))) (sRaiseV "InvalidNumber" "given" (eVar 0)) sNext)
def f_require_prime : FF := fnD 0 n_require_prime
def N_plus_in : List Str := ["prime", "one", "other", "times", "size", "place"]
def P_plus_in : List Str := ["prime", "one", "other", "times"]
abbrev S_plus_in : Scope := defScope (top 21)
def e_plus_in_1 : EE := (eOp addD (eCal 2 f_number_at [] (aCons (eVar 1) (aCons (eVar 5) aNil))) (eOp mulD (eVar 3) (eCal 2 f_number_at [] (aCons (eVar 2) (aCons (eVar 5) aNil)))))
def q_plus_in_1 : EA := (fLc (iRngN 1 (aCons (eVar 4) aNil)) (gNameD 5) eYes e_plus_in_1 [5])
def n_plus_in : SS := (sSeq (sSet 4 (eCB max2D (aCons (eCB lenD (aCons (eVar 1) aNil)) (aCons (eCB lenD (aCons (eVar 2) aNil)) aNil)))) (sRet (eCal 2 f_trimmed [] (aCons (eVar 0) (aCons (eFz q_plus_in_1) aNil)))))
def f_plus_in : FF := fnD 2 n_plus_in
def N_times_in : List Str := ["prime", "one", "other", "found", "place", "first", "spot", "second"]
def P_times_in : List Str := ["prime", "one", "other"]
abbrev S_times_in : Scope := defScope (top 23)
def e_times_in_1 : EE := (eC (.int 0))
def q_times_in_1 : EA := (fLc (iRngN 1 (aCons (eOp (ints2 fun i j => some (.int (i - j))) (eOp addD (eCB lenD (aCons (eVar 1) aNil)) (eCB lenD (aCons (eVar 2) aNil))) (eC (.int 1))) aNil)) (gNameD 4) eYes e_times_in_1 [4])
def y_times_in_1 : SS := (sPut (eOp addD (eOp ixD (eVar 3) (eOp addD (eVar 4) (eVar 6))) (eOp mulD (eVar 5) (eVar 7))) (eVar 3) (eOp addD (eVar 4) (eVar 6)))
def w_times_in_1 : SS := (sFor (iEnu (eVar 2)) (gTupD (gNameD 6 :: gNameD 7 :: [])) y_times_in_1)
def y_times_in_2 : SS := (sIf (eTest (eOp neD (eVar 5) (eC (.int 0)))) w_times_in_1 sNext)
def w_times_in_2 : SS := (sFor (iEnu (eVar 1)) (gTupD (gNameD 4 :: gNameD 5 :: [])) y_times_in_2)
def n_times_in : SS := (sSeq (sIf (eOr (eTest (eOp eqD (eVar 1) (eTup aNil))) (eTest (eOp eqD (eVar 2) (eTup aNil)))) (sRet (eTup aNil)) sNext) (sSeq (sSet 3 (eHnd q_times_in_1)) (sSeq w_times_in_2 (sRet (eCal 2 f_trimmed [] (aCons (eVar 0) (aCons (eVar 3) aNil)))))))
def f_times_in : FF := fnD 5 n_times_in
def N_scaled_poly : List Str := ["prime", "one", "number", "entry"]
def P_scaled_poly : List Str := ["prime", "one", "number"]
abbrev S_scaled_poly : Scope := defScope (top 24)
def e_scaled_poly_1 : EE := (eOp mulD (eVar 2) (eVar 3))
def q_scaled_poly_1 : EA := (fLc (iSeq (eVar 1)) (gNameD 3) eYes e_scaled_poly_1 [3])
def n_scaled_poly : SS := (sRet (eCal 2 f_trimmed [] (aCons (eVar 0) (aCons (eFz q_scaled_poly_1) aNil))))
def f_scaled_poly : FF := fnD 1 n_scaled_poly
def N_divided_in : List Str := ["prime", "one", "other", "left", "found", "place", "size", "undone", "factor", "number", "spot"]
def P_divided_in : List Str := ["prime", "one", "other"]
abbrev S_divided_in : Scope := defScope (top 25)
def e_divided_in_1 : EE := (eVar 9)
def q_divided_in_1 : EA := (fLc (iSeq (eVar 1)) (gNameD 9) eYes e_divided_in_1 [9])
def e_divided_in_2 : EE := (eC (.int 0))
def q_divided_in_2 : EA := (fLc (iRngN 1 (aCons (eOp addD (eOp (ints2 fun i j => some (.int (i - j))) (eCB lenD (aCons (eVar 1) aNil)) (eVar 6)) (eC (.int 1))) aNil)) (gNameD 5) eYes e_divided_in_2 [5])
def y_divided_in_1 : SS := (sPut (eOp (ints2 modI) (eOp (ints2 fun i j => some (.int (i - j))) (eOp ixD (eVar 3) (eOp addD (eVar 5) (eVar 10))) (eOp mulD (eVar 8) (eVar 9))) (eVar 0)) (eVar 3) (eOp addD (eVar 5) (eVar 10)))
def w_divided_in_1 : SS := (sFor (iEnu (eVar 2)) (gTupD (gNameD 10 :: gNameD 9 :: [])) y_divided_in_1)
def y_divided_in_2 : SS := (sSeq (sSet 8 (eOp (ints2 modI) (eOp mulD (eOp ixD (eVar 3) (eOp (ints2 fun i j => some (.int (i - j))) (eOp addD (eVar 5) (eVar 6)) (eC (.int 1)))) (eVar 7)) (eVar 0))) (sSeq (sPut (eVar 8) (eVar 4) (eVar 5)) (sIf (eTest (eOp neD (eVar 8) (eC (.int 0)))) w_divided_in_1 sNext)))
def w_divided_in_2 : SS := (sFor (iRngN 3 (aCons (eOp (ints2 fun i j => some (.int (i - j))) (eCB lenD (aCons (eVar 1) aNil)) (eVar 6)) (aCons (eUn negD (eC (.int 1))) (aCons (eUn negD (eC (.int 1))) aNil)))) (gNameD 5) y_divided_in_2)
def n_divided_in : SS := (sSeq (sPar2 6 7 (aCons (eCB lenD (aCons (eVar 2) aNil)) (aCons (eCal 2 f_undone_number [] (aCons (eVar 0) (aCons (eOp ixD (eVar 2) (eUn negD (eC (.int 1)))) aNil))) aNil))) (sSeq (sSet 3 (eHnd q_divided_in_1)) (sSeq (sSet 4 (eHnd q_divided_in_2)) (sSeq w_divided_in_2 (sRet (eTup (aCons (eCal 2 f_trimmed [] (aCons (eVar 0) (aCons (eVar 4) aNil))) (aCons (eCal 2 f_trimmed [] (aCons (eVar 0) (aCons (eVar 3) aNil))) aNil))))))))
def f_divided_in : FF := fnD 8 n_divided_in
def N_slope_of_poly : List Str := ["prime", "one", "place", "number"]
def P_slope_of_poly : List Str := ["prime", "one"]
abbrev S_slope_of_poly : Scope := defScope (top 29)
def e_slope_of_poly_1 : EE := (eOp mulD (eVar 2) (eVar 3))
def q_slope_of_poly_1 : EA := (fLc (iEnu (eVar 1)) (gTupD (gNameD 2 :: gNameD 3 :: [])) eYes e_slope_of_poly_1 [2, 3])
def n_slope_of_poly : SS := (sRet (eCal 2 f_trimmed [] (aCons (eVar 0) (aCons (eFz (fCutL (eFz q_slope_of_poly_1) (oAt (eC (.int 1))) oNo)) aNil))))
def f_slope_of_poly : FF := fnD 2 n_slope_of_poly
def N_require_operand : List Str := ["one", "other"]
def P_require_operand : List Str := ["one", "other"]
abbrev S_require_operand : Scope := defScope (top 48)
def n_require_operand : SS := (sSeq (sIf (eNot (eTest (eCB (isiO clsL) (aCons (eVar 1) (aCons (eC (.glo "Function")) aNil))))) (sRaise ⟨.ty "TypeError", none⟩) sNext) (sDrop (eCal 2 f_require_same_prime [] (aCons (eVar 0) (aCons (eVar 1) aNil)))))
def f_require_operand : FF := fnD 0 n_require_operand
def N_each_made : List Str := ["operator", "functions", "function"]
def P_each_made : List Str := ["operator", "functions"]
abbrev S_each_made : Scope := defScope (top 70)
def e_each_made_1 : EE := (eCB (isiO clsL) (aCons (eVar 2) (aCons (eC (.glo "Function")) aNil)))
def q_each_made_1 : EA := (fLc (iSeq (eVar 1)) (gNameD 2) eYes e_each_made_1 [2])
def y_each_made_1 : SS := (sDrop (eCal 2 f_require_same_prime [] (aCons (eVar 0) (aCons (eVar 2) aNil))))
def w_each_made_1 : SS := (sFor (iSeq (eVar 1)) (gNameD 2) y_each_made_1)
def y_each_made_2 : SS := sStk
def w_each_made_2 : SS := (sFor (iSeq (eVar 1)) (gNameD 2) y_each_made_2)
def n_each_made : SS := (sSeq (sDrop (eCal 1 f_require_operator [] (aCons (eVar 0) aNil))) (sSeq (sIf (eOr (eNot (eTest (eCB (isiO clsL) (aCons (eVar 1) (aCons (eC (.ty "tuple")) aNil))))) (eNot (eTest (eCB (onB fun bs => some (.bl (bs.all id))) (aCons (eFz q_each_made_1) aNil))))) (sRaise ⟨.glo "InvalidFunction", none⟩) sNext) (sSeq w_each_made_1 w_each_made_2)))
def f_each_made : FF := fnD 1 n_each_made
def N__law_one_of : List Str := ["bag", "items"]
def P__law_one_of : List Str := ["bag", "items"]
abbrev S__law_one_of : Scope := defScope (top 74)
def n__law_one_of : SS := (sRet (eOp ixD (eVar 1) (eCalB 2 f__law_grab [] (aCons (eVar 0) (aCons (eCB lenD (aCons (eVar 1) aNil)) aNil)))))
def f__law_one_of : FF := fnD 0 n__law_one_of
def N_require_within : List Str := ["value", "low", "high"]
def P_require_within : List Str := ["value", "low", "high"]
abbrev S_require_within : Scope := defScope (top 15)
def n_require_within : SS := (sIf (eNot (eTest (eCal 3 f_is_within [] (aCons (eVar 0) (aCons (eVar 1) (aCons (eVar 2) aNil)))))) (sRaiseV "InvalidNumber" "given" (eVar 0)) sNext)
def f_require_within : FF := fnD 0 n_require_within
def N_is_poly_any : List Str := ["prime", "value", "number"]
def P_is_poly_any : List Str := ["prime", "value"]
abbrev S_is_poly_any : Scope := defScope (top 18)
def e_is_poly_any_1 : EE := (eCal 3 f_is_within [] (aCons (eVar 2) (aCons (eC (.int 0)) (aCons (eOp (ints2 fun i j => some (.int (i - j))) (eVar 0) (eC (.int 1))) aNil))))
def q_is_poly_any_1 : EA := (fLc (iSeq (eVar 1)) (gNameD 2) eYes e_is_poly_any_1 [2])
def n_is_poly_any : SS := (sSeq (sIf (eOr (eNot (eTest (eCB (isiO clsL) (aCons (eVar 1) (aCons (eC (.ty "tuple")) aNil))))) (eNot (eTest (eCB (onB fun bs => some (.bl (bs.all id))) (aCons (eFz q_is_poly_any_1) aNil))))) (sRet (eC (.bl false))) sNext) (sRet (eOrV (eOp eqD (eVar 1) (eTup aNil)) (eOp neD (eOp ixD (eVar 1) (eUn negD (eC (.int 1)))) (eC (.int 0))))))
def f_is_poly_any : FF := fnD 1 n_is_poly_any
def N_monic_in : List Str := ["prime", "one"]
def P_monic_in : List Str := ["prime", "one"]
abbrev S_monic_in : Scope := defScope (top 26)
def n_monic_in : SS := (sRet (eIf (eTest (eOp neD (eVar 1) (eTup aNil))) (eCal 3 f_scaled_poly [] (aCons (eVar 0) (aCons (eVar 1) (aCons (eCal 2 f_undone_number [] (aCons (eVar 0) (aCons (eOp ixD (eVar 1) (eUn negD (eC (.int 1)))) aNil))) aNil)))) (eTup aNil)))
def f_monic_in : FF := fnD 0 n_monic_in
def N_Operator___init__ : List Str := ["self", "prime", "entries"]
def P_Operator___init__ : List Str := ["self", "prime", "entries"]
abbrev S_Operator___init__ : Scope := defScope (mem 66 1)
def n_Operator___init__ : SS := (sSeq (sDrop (eCal 1 f_require_prime [] (aCons (eVar 1) aNil))) (sSeq (sAtt "own_prime" (eVar 1) (eVar 0)) (sAtt "own_entries" (eCal 2 f_entries_told [] (aCons (eVar 1) (aCons (eVar 2) aNil))) (eVar 0))))
def f_Operator___init__ : FF := fnD 0 n_Operator___init__
def N_Operator___eq__ : List Str := ["self", "other"]
def P_Operator___eq__ : List Str := ["self", "other"]
abbrev S_Operator___eq__ : Scope := defScope (mem 66 18)
def n_Operator___eq__ : SS := (sSeq (sIf (eNot (eTest (eCB (isiO clsL) (aCons (eVar 1) (aCons (eC (.glo "Operator")) aNil))))) (sRet (eC (.bl false))) sNext) (sRet (eAndV (eOE [("Function", f_Function___eq__)] false eqD (eUn (atD "own_prime") (eVar 0)) (eUn (atD "own_prime") (eVar 1))) (eOE [("Function", f_Function___eq__)] false (eqX [("Function", f_Function___eq__)]) (eUn (atD "own_entries") (eVar 0)) (eUn (atD "own_entries") (eVar 1))))))
def f_Operator___eq__ : FF := fnD 0 n_Operator___eq__
def N_require_poly : List Str := ["prime", "value"]
def P_require_poly : List Str := ["prime", "value"]
abbrev S_require_poly : Scope := defScope (top 19)
def n_require_poly : SS := (sIf (eOr (eNot (eTest (eCal 2 f_is_poly_any [] (aCons (eVar 0) (aCons (eVar 1) aNil))))) (eTest (eOp (ints2 fun i j => some (.bl (decide (j < i)))) (eCB lenD (aCons (eVar 1) aNil)) (eOp addD (eC c_MAX_POWER) (eC (.int 1)))))) (sRaise ⟨.glo "InvalidPoly", none⟩) sNext)
def f_require_poly : FF := fnD 0 n_require_poly
def N_common_in : List Str := ["prime", "one", "other"]
def P_common_in : List Str := ["prime", "one", "other"]
abbrev S_common_in : Scope := defScope (top 27)
def t_common_in_1 : ET := (eTest (eOp neD (eVar 2) (eTup aNil)))
def y_common_in_1 : SS := (sPar2 1 2 (aCons (eVar 2) (aCons (eOp ixD (eCal 3 f_divided_in [] (aCons (eVar 0) (aCons (eVar 1) (aCons (eVar 2) aNil)))) (eC (.int 1))) aNil)))
def w_common_in_1 : SS := (sLoop t_common_in_1 y_common_in_1 100000)
def n_common_in : SS := (sSeq w_common_in_1 (sRet (eCal 2 f_monic_in [] (aCons (eVar 0) (aCons (eVar 1) aNil)))))
def f_common_in : FF := fnD 0 n_common_in
def N_lowest_pair : List Str := ["prime", "top", "bottom", "common", "undone"]
def P_lowest_pair : List Str := ["prime", "top", "bottom"]
abbrev S_lowest_pair : Scope := defScope (top 37)
def n_lowest_pair : SS := (sSeq (sIf (eTest (eOp eqE (eVar 1) (eTup aNil))) (sRet (eTup (aCons (eTup aNil) (aCons (eTup (aCons (eC (.int 1)) aNil)) aNil)))) sNext) (sSeq (sSet 3 (eCal 3 f_common_in [] (aCons (eVar 0) (aCons (eVar 1) (aCons (eVar 2) aNil))))) (sSeq (sIf (eTest (eOp (ints2 fun i j => some (.bl (decide (j < i)))) (eCB lenD (aCons (eVar 3) aNil)) (eC (.int 1)))) (sPar2 1 2 (aCons (eOp ixD (eCal 3 f_divided_in [] (aCons (eVar 0) (aCons (eVar 1) (aCons (eVar 3) aNil)))) (eC (.int 0))) (aCons (eOp ixD (eCal 3 f_divided_in [] (aCons (eVar 0) (aCons (eVar 2) (aCons (eVar 3) aNil)))) (eC (.int 0))) aNil))) sNext) (sSeq (sSet 4 (eCal 2 f_undone_number [] (aCons (eVar 0) (aCons (eOp ixD (eVar 2) (eUn negD (eC (.int 1)))) aNil)))) (sRet (eTup (aCons (eCal 3 f_scaled_poly [] (aCons (eVar 0) (aCons (eVar 1) (aCons (eVar 4) aNil)))) (aCons (eCal 3 f_scaled_poly [] (aCons (eVar 0) (aCons (eVar 2) (aCons (eVar 4) aNil)))) aNil))))))))
def f_lowest_pair : FF := fnD 2 n_lowest_pair
def N_made_operator : List Str := ["prime", "entries"]
def P_made_operator : List Str := ["prime", "entries"]
abbrev S_made_operator : Scope := defScope (top 54)
def n_made_operator : SS := (sRet (eNew "Operator" ["own_entries", "own_prime"] 3 f_Operator___init__ (aCons (eVar 0) (aCons (eNew "KeptEntries" ["own_kept"] 2 f_KeptEntries___init__ (aCons (eCal 1 f_trimmed_entries [] (aCons (eVar 1) aNil)) aNil)) aNil))))
def f_made_operator : FF := fnD 0 n_made_operator
def N_Function___init__ : List Str := ["self", "prime", "top", "bottom", "pair"]
def P_Function___init__ : List Str := ["self", "prime", "top", "bottom"]
abbrev S_Function___init__ : Scope := defScope (mem 34 1)
def n_Function___init__ : SS := (sSeq (sIf (eTest (eCB (isiO clsL) (aCons (eVar 2) (aCons (eC (.glo "Lowest")) aNil)))) (sSet 4 (eUn (atD "own_pair") (eVar 2))) (sSeq (sDrop (eCal 1 f_require_prime [] (aCons (eVar 1) aNil))) (sSeq (sDrop (eCal 2 f_require_poly [] (aCons (eVar 1) (aCons (eVar 2) aNil)))) (sSeq (sDrop (eCal 2 f_require_poly [] (aCons (eVar 1) (aCons (eVar 3) aNil)))) (sSeq (sIf (eTest (eOp eqE (eVar 3) (eTup aNil))) (sRaise ⟨.glo "InvalidOperation", none⟩) sNext) (sSet 4 (eCal 3 f_lowest_pair [] (aCons (eVar 1) (aCons (eVar 2) (aCons (eVar 3) aNil)))))))))) (sSeq (sAtt "own_prime" (eVar 1) (eVar 0)) (sSeq (sAtt "own_top" (eOp ixD (eVar 4) (eC (.int 0))) (eVar 0)) (sAtt "own_bottom" (eOp ixD (eVar 4) (eC (.int 1))) (eVar 0)))))
def f_Function___init__ : FF := fnD 1 n_Function___init__
def N_Operator_times : List Str := ["cls", "function"]
def P_Operator_times : List Str := ["cls", "function"]
abbrev S_Operator_times : Scope := defScope (mem 66 4)
def n_Operator_times : SS := (sSeq (sDrop (eCal 1 f_require_function [] (aCons (eVar 1) aNil))) (sRet (eCal 2 f_made_operator [] (aCons (eUn (atD "own_prime") (eVar 1)) (aCons (eTup (aCons (eVar 1) aNil)) aNil)))))
def f_Operator_times : FF := fnD 0 n_Operator_times
def N_Function_number : List Str := ["cls", "prime", "number"]
def P_Function_number : List Str := ["cls", "prime", "number"]
abbrev S_Function_number : Scope := defScope (mem 34 2)
def n_Function_number : SS := (sSeq (sDrop (eCal 1 f_require_prime [] (aCons (eVar 1) aNil))) (sSeq (sIf (eNot (eTest (eCal 1 f_is_integer [] (aCons (eVar 2) aNil)))) (sRaiseV "InvalidNumber" "given" (eVar 2)) sNext) (sRet (eNewV 0 "Function" ["own_bottom", "own_prime", "own_top"] 4 f_Function___init__ (aCons (eVar 1) (aCons (eNew "Lowest" ["own_pair"] 2 f_Lowest___init__ (aCons (eTup (aCons (eCal 2 f_trimmed [] (aCons (eVar 1) (aCons (eFz (fLst (aCons (eVar 2) aNil))) aNil))) (aCons (eTup (aCons (eC (.int 1)) aNil)) aNil))) aNil)) (aCons (eTup aNil) aNil)))))))
def f_Function_number : FF := fnD 0 n_Function_number
def N_Function___neg__ : List Str := ["self", "prime"]
def P_Function___neg__ : List Str := ["self"]
abbrev S_Function___neg__ : Scope := defScope (mem 34 18)
def n_Function___neg__ : SS := (sSeq (sSet 1 (eUn (atD "own_prime") (eVar 0))) (sRet (eNew "Function" ["own_bottom", "own_prime", "own_top"] 4 f_Function___init__ (aCons (eVar 1) (aCons (eNew "Lowest" ["own_pair"] 2 f_Lowest___init__ (aCons (eTup (aCons (eCal 3 f_scaled_poly [] (aCons (eVar 1) (aCons (eUn (atD "own_top") (eVar 0)) (aCons (eUn negD (eC (.int 1))) aNil)))) (aCons (eUn (atD "own_bottom") (eVar 0)) aNil))) aNil)) (aCons (eTup aNil) aNil))))))
def f_Function___neg__ : FF := fnD 1 n_Function___neg__
def N_made_function : List Str := ["prime", "top", "bottom"]
def P_made_function : List Str := ["prime", "top", "bottom"]
abbrev S_made_function : Scope := defScope (top 38)
def n_made_function : SS := (sRet (eNew "Function" ["own_bottom", "own_prime", "own_top"] 4 f_Function___init__ (aCons (eVar 0) (aCons (eNew "Lowest" ["own_pair"] 2 f_Lowest___init__ (aCons (eCal 3 f_lowest_pair [] (aCons (eVar 0) (aCons (eCal 2 f_trimmed [] (aCons (eVar 0) (aCons (eVar 1) aNil))) (aCons (eCal 2 f_trimmed [] (aCons (eVar 0) (aCons (eVar 2) aNil))) aNil)))) aNil)) (aCons (eTup aNil) aNil)))))
def f_made_function : FF := fnD 0 n_made_function
def N_zero_of : List Str := ["prime"]
def P_zero_of : List Str := ["prime"]
abbrev S_zero_of : Scope := defScope (top 39)
def n_zero_of : SS := (sRet (eNew "Function" ["own_bottom", "own_prime", "own_top"] 4 f_Function___init__ (aCons (eVar 0) (aCons (eNew "Lowest" ["own_pair"] 2 f_Lowest___init__ (aCons (eTup (aCons (eTup aNil) (aCons (eTup (aCons (eC (.int 1)) aNil)) aNil))) aNil)) (aCons (eTup aNil) aNil)))))
def f_zero_of : FF := fnD 0 n_zero_of
def N_unit_of : List Str := ["prime"]
def P_unit_of : List Str := ["prime"]
abbrev S_unit_of : Scope := defScope (top 40)
def n_unit_of : SS := (sRet (eNew "Function" ["own_bottom", "own_prime", "own_top"] 4 f_Function___init__ (aCons (eVar 0) (aCons (eNew "Lowest" ["own_pair"] 2 f_Lowest___init__ (aCons (eTup (aCons (eTup (aCons (eC (.int 1)) aNil)) (aCons (eTup (aCons (eC (.int 1)) aNil)) aNil))) aNil)) (aCons (eTup aNil) aNil)))))
def f_unit_of : FF := fnD 0 n_unit_of
def N_sum_of : List Str := ["one", "other", "times", "prime", "first", "second", "left", "right"]
def P_sum_of : List Str := ["one", "other", "times"]
abbrev S_sum_of : Scope := defScope (top 41)
def n_sum_of : SS := (sSeq (sPar3 3 4 5 (aCons (eUn (atD "own_prime") (eVar 0)) (aCons (eUn (atD "own_bottom") (eVar 0)) (aCons (eUn (atD "own_bottom") (eVar 1)) aNil)))) (sSeq (sIf (eTest (eOp eqD (eVar 4) (eVar 5))) (sRet (eCal 3 f_made_function [] (aCons (eVar 3) (aCons (eCal 4 f_plus_in [] (aCons (eVar 3) (aCons (eUn (atD "own_top") (eVar 0)) (aCons (eUn (atD "own_top") (eVar 1)) (aCons (eVar 2) aNil))))) (aCons (eVar 4) aNil))))) sNext) (sSeq (sPar2 6 7 (aCons (eCal 3 f_times_in [] (aCons (eVar 3) (aCons (eUn (atD "own_top") (eVar 0)) (aCons (eVar 5) aNil)))) (aCons (eCal 3 f_times_in [] (aCons (eVar 3) (aCons (eUn (atD "own_top") (eVar 1)) (aCons (eVar 4) aNil)))) aNil))) (sRet (eCal 3 f_made_function [] (aCons (eVar 3) (aCons (eCal 4 f_plus_in [] (aCons (eVar 3) (aCons (eVar 6) (aCons (eVar 7) (aCons (eVar 2) aNil))))) (aCons (eCal 3 f_times_in [] (aCons (eVar 3) (aCons (eVar 4) (aCons (eVar 5) aNil)))) aNil))))))))
def f_sum_of : FF := fnD 5 n_sum_of
def N_product_of : List Str := ["one", "other", "prime", "top"]
def P_product_of : List Str := ["one", "other"]
abbrev S_product_of : Scope := defScope (top 42)
def n_product_of : SS := (sSeq (sSet 2 (eUn (atD "own_prime") (eVar 0))) (sSeq (sSet 3 (eCal 3 f_times_in [] (aCons (eVar 2) (aCons (eUn (atD "own_top") (eVar 0)) (aCons (eUn (atD "own_top") (eVar 1)) aNil))))) (sRet (eCal 3 f_made_function [] (aCons (eVar 2) (aCons (eVar 3) (aCons (eCal 3 f_times_in [] (aCons (eVar 2) (aCons (eUn (atD "own_bottom") (eVar 0)) (aCons (eUn (atD "own_bottom") (eVar 1)) aNil)))) aNil)))))))
def f_product_of : FF := fnD 2 n_product_of
def N_undone_of : List Str := ["function"]
def P_undone_of : List Str := ["function"]
abbrev S_undone_of : Scope := defScope (top 43)
def n_undone_of : SS := (sRet (eCal 3 f_made_function [] (aCons (eUn (atD "own_prime") (eVar 0)) (aCons (eUn (atD "own_bottom") (eVar 0)) (aCons (eUn (atD "own_top") (eVar 0)) aNil)))))
def f_undone_of : FF := fnD 0 n_undone_of
def N_slope_of : List Str := ["function", "first", "second", "prime", "top", "bottom"]
def P_slope_of : List Str := ["function"]
abbrev S_slope_of : Scope := defScope (top 45)
def n_slope_of : SS := (sSeq (sPar3 3 4 5 (aCons (eUn (atD "own_prime") (eVar 0)) (aCons (eUn (atD "own_top") (eVar 0)) (aCons (eUn (atD "own_bottom") (eVar 0)) aNil)))) (sSeq (sSet 1 (eCal 3 f_times_in [] (aCons (eVar 3) (aCons (eCal 2 f_slope_of_poly [] (aCons (eVar 3) (aCons (eVar 4) aNil))) (aCons (eVar 5) aNil))))) (sSeq (sSet 2 (eCal 3 f_times_in [] (aCons (eVar 3) (aCons (eVar 4) (aCons (eCal 2 f_slope_of_poly [] (aCons (eVar 3) (aCons (eVar 5) aNil))) aNil))))) (sRet (eCal 3 f_made_function [] (aCons (eVar 3) (aCons (eCal 4 f_plus_in [] (aCons (eVar 3) (aCons (eVar 1) (aCons (eVar 2) (aCons (eUn negD (eC (.int 1))) aNil))))) (aCons (eCal 3 f_times_in [] (aCons (eVar 3) (aCons (eVar 5) (aCons (eVar 5) aNil)))) aNil))))))))
def f_slope_of : FF := fnD 5 n_slope_of
def N_Operator_slopes : List Str := ["cls", "prime", "many"]
def P_Operator_slopes : List Str := ["cls", "prime", "many"]
abbrev S_Operator_slopes : Scope := defScope (mem 66 2)
def n_Operator_slopes : SS := (sSeq (sDrop (eCal 1 f_require_prime [] (aCons (eVar 1) aNil))) (sSeq (sDrop (eCal 3 f_require_within [] (aCons (eVar 2) (aCons (eC (.int 0)) (aCons (eC c_MAX_RAISED_operators) aNil))))) (sRet (eNewV 0 "Operator" ["own_entries", "own_prime"] 3 f_Operator___init__ (aCons (eVar 1) (aCons (eTup (aStar (eFz (fOp fRep (eFz (fLst (aCons (eCal 1 f_zero_of [] (aCons (eVar 1) aNil)) aNil))) (eVar 2))) (aCons (eCal 1 f_unit_of [] (aCons (eVar 1) aNil)) aNil))) aNil))))))
def f_Operator_slopes : FF := fnD 0 n_Operator_slopes
def N_Operator_factor : List Str := ["cls", "function"]
def P_Operator_factor : List Str := ["cls", "function"]
abbrev S_Operator_factor : Scope := defScope (mem 66 3)
def n_Operator_factor : SS := (sSeq (sDrop (eCal 1 f_require_function [] (aCons (eVar 1) aNil))) (sRet (eNewV 0 "Operator" ["own_entries", "own_prime"] 3 f_Operator___init__ (aCons (eUn (atD "own_prime") (eVar 1)) (aCons (eTup (aCons (eOU [("Function", f_Function___neg__)] any1 negD (eVar 1)) (aCons (eCal 1 f_unit_of [] (aCons (eUn (atD "own_prime") (eVar 1)) aNil)) aNil))) aNil)))))
def f_Operator_factor : FF := fnD 0 n_Operator_factor
def N_Operator_entry : List Str := ["self", "number"]
def P_Operator_entry : List Str := ["self", "number"]
abbrev S_Operator_entry : Scope := defScope (mem 66 9)
def n_Operator_entry : SS := (sSeq (sDrop (eCal 3 f_require_within [] (aCons (eVar 1) (aCons (eC (.int 0)) (aCons (eC c_MOST_INDEX) aNil))))) (sRet (eIf (eTest (eOp (ints2 fun i j => some (.bl (decide (i < j)))) (eVar 1) (eCB lenD (aCons (eUn (atD "own_entries") (eVar 0)) aNil)))) (eOp ixD (eUn (atD "own_entries") (eVar 0)) (eVar 1)) (eCal 1 f_zero_of [] (aCons (eUn (atD "own_prime") (eVar 0)) aNil)))))
def f_Operator_entry : FF := fnD 0 n_Operator_entry
def N_Function___add__ : List Str := ["self", "other"]
def P_Function___add__ : List Str := ["self", "other"]
abbrev S_Function___add__ : Scope := defScope (mem 34 14)
def n_Function___add__ : SS := (sSeq (sDrop (eCal 2 f_require_operand [] (aCons (eVar 0) (aCons (eVar 1) aNil)))) (sRet (eCal 3 f_sum_of [] (aCons (eVar 0) (aCons (eVar 1) (aCons (eC (.int 1)) aNil))))))
def f_Function___add__ : FF := fnD 0 n_Function___add__
def N_Function___sub__ : List Str := ["self", "other"]
def P_Function___sub__ : List Str := ["self", "other"]
abbrev S_Function___sub__ : Scope := defScope (mem 34 15)
def n_Function___sub__ : SS := (sSeq (sDrop (eCal 2 f_require_operand [] (aCons (eVar 0) (aCons (eVar 1) aNil)))) (sRet (eCal 3 f_sum_of [] (aCons (eVar 0) (aCons (eVar 1) (aCons (eUn negD (eC (.int 1))) aNil))))))
def f_Function___sub__ : FF := fnD 0 n_Function___sub__
def N_Function___mul__ : List Str := ["self", "other"]
def P_Function___mul__ : List Str := ["self", "other"]
abbrev S_Function___mul__ : Scope := defScope (mem 34 16)
def n_Function___mul__ : SS := (sSeq (sDrop (eCal 2 f_require_operand [] (aCons (eVar 0) (aCons (eVar 1) aNil)))) (sRet (eCal 2 f_product_of [] (aCons (eVar 0) (aCons (eVar 1) aNil)))))
def f_Function___mul__ : FF := fnD 0 n_Function___mul__
def N_Function___floordiv__ : List Str := ["self", "other"]
def P_Function___floordiv__ : List Str := ["self", "other"]
abbrev S_Function___floordiv__ : Scope := defScope (mem 34 17)
def n_Function___floordiv__ : SS := (sSeq (sDrop (eCal 2 f_require_operand [] (aCons (eVar 0) (aCons (eVar 1) aNil)))) (sSeq (sIf (eTest (eOp eqE (eUn (atD "own_top") (eVar 1)) (eTup aNil))) (sRaise ⟨.glo "InvalidOperation", none⟩) sNext) (sRet (eCal 2 f_product_of [] (aCons (eVar 0) (aCons (eCal 1 f_undone_of [] (aCons (eVar 1) aNil)) aNil))))))
def f_Function___floordiv__ : FF := fnD 0 n_Function___floordiv__
def N_is_of_t : List Str := ["function"]
def P_is_of_t : List Str := ["function"]
abbrev S_is_of_t : Scope := defScope (top 60)
def n_is_of_t : SS := (sRet (eOp eqE (eUn (atD "own_top") (eCal 1 f_slope_of [] (aCons (eVar 0) aNil))) (eTup aNil)))
def f_is_of_t : FF := fnD 0 n_is_of_t
def N_sum_in : List Str := ["one", "other", "times", "left", "right", "prime", "size", "zero", "factor", "here", "there"]
def P_sum_in : List Str := ["one", "other", "times"]
abbrev S_sum_in : Scope := defScope (top 55)
def e_sum_in_1 : EE := (eOB [("Function", f_Function___add__)] addD (eVar 9) (eOB [("Function", f_Function___mul__)] mulD (eVar 8) (eVar 10)))
def q_sum_in_1 : EA := (fLc (iZip2 (aCons (eVar 3) (aCons (eVar 4) aNil))) (gTupD (gNameD 9 :: gNameD 10 :: [])) eYes e_sum_in_1 [9, 10])
def n_sum_in : SS := (sSeq (sPar2 5 6 (aCons (eUn (atD "own_prime") (eVar 0)) (aCons (eCB max2D (aCons (eCB lenD (aCons (eUn (atD "own_entries") (eVar 0)) aNil)) (aCons (eCB lenD (aCons (eUn (atD "own_entries") (eVar 1)) aNil)) aNil))) aNil))) (sSeq (sAsg (eTup (aCons (eCal 1 f_zero_of [] (aCons (eVar 5) aNil)) (aCons (eCal 3 f_made_function [] (aCons (eVar 5) (aCons (eFz (fLst (aCons (eVar 2) aNil))) (aCons (eTup (aCons (eC (.int 1)) aNil)) aNil)))) aNil))) (gTupD (gNameD 7 :: gNameD 8 :: []))) (sSeq (sSet 3 (eFz (fLst (aStar (eUn (atD "own_entries") (eVar 0)) (aStar (eFz (fOp fRep (eFz (fLst (aCons (eVar 7) aNil))) (eOB [("Function", f_Function___sub__)] (ints2 fun i j => some (.int (i - j))) (eVar 6) (eCB lenD (aCons (eUn (atD "own_entries") (eVar 0)) aNil))))) aNil))))) (sSeq (sSet 4 (eFz (fLst (aStar (eUn (atD "own_entries") (eVar 1)) (aStar (eFz (fOp fRep (eFz (fLst (aCons (eVar 7) aNil))) (eOB [("Function", f_Function___sub__)] (ints2 fun i j => some (.int (i - j))) (eVar 6) (eCB lenD (aCons (eUn (atD "own_entries") (eVar 1)) aNil))))) aNil))))) (sRet (eCal 2 f_made_operator [] (aCons (eVar 5) (aCons (eFz q_sum_in_1) aNil))))))))
def f_sum_in : FF := fnD 8 n_sum_in
def N_scaled_in : List Str := ["function", "operator", "entry"]
def P_scaled_in : List Str := ["function", "operator"]
abbrev S_scaled_in : Scope := defScope (top 56)
def e_scaled_in_1 : EE := (eOB [("Function", f_Function___mul__)] mulD (eVar 0) (eVar 2))
def q_scaled_in_1 : EA := (fLc (iSeq (eUn (atD "own_entries") (eVar 1))) (gNameD 2) eYes e_scaled_in_1 [2])
def n_scaled_in : SS := (sRet (eCal 2 f_made_operator [] (aCons (eUn (atD "own_prime") (eVar 1)) (aCons (eFz q_scaled_in_1) aNil))))
def f_scaled_in : FF := fnD 1 n_scaled_in
def N_slope_ahead : List Str := ["operator", "zero", "slopes", "moved", "entry", "here", "there"]
def P_slope_ahead : List Str := ["operator"]
abbrev S_slope_ahead : Scope := defScope (top 57)
def e_slope_ahead_1 : EE := (eCal 1 f_slope_of [] (aCons (eVar 4) aNil))
def q_slope_ahead_1 : EA := (fLc (iSeq (eUn (atD "own_entries") (eVar 0))) (gNameD 4) eYes e_slope_ahead_1 [4])
def e_slope_ahead_2 : EE := (eOB [("Function", f_Function___add__)] addD (eVar 5) (eVar 6))
def q_slope_ahead_2 : EA := (fLc (iSeq (eVar 3)) (gTupD (gNameD 5 :: gNameD 6 :: [])) eYes e_slope_ahead_2 [5, 6])
def n_slope_ahead : SS := (sSeq (sSet 1 (eCal 1 f_zero_of [] (aCons (eUn (atD "own_prime") (eVar 0)) aNil))) (sSeq (sSet 2 (eFz q_slope_ahead_1)) (sSeq (sSet 3 (eFz (fZipL (aCons (eFz (fLst (aStar (eVar 2) (aCons (eVar 1) aNil)))) (aCons (eFz (fLst (aCons (eVar 1) (aStar (eUn (atD "own_entries") (eVar 0)) aNil)))) aNil))))) (sRet (eCal 2 f_made_operator [] (aCons (eUn (atD "own_prime") (eVar 0)) (aCons (eFz q_slope_ahead_2) aNil)))))))
def f_slope_ahead : FF := fnD 6 n_slope_ahead
def N_applied_to : List Str := ["operator", "function", "entry", "found", "here"]
def P_applied_to : List Str := ["operator", "function"]
abbrev S_applied_to : Scope := defScope (top 59)
def y_applied_to_1 : SS := (sPar2 3 4 (aCons (eOB [("Function", f_Function___add__)] addD (eVar 3) (eOB [("Function", f_Function___mul__)] mulD (eVar 2) (eVar 4))) (aCons (eCal 1 f_slope_of [] (aCons (eVar 4) aNil)) aNil)))
def w_applied_to_1 : SS := (sFor (iSeq (eUn (atD "own_entries") (eVar 0))) (gNameD 2) y_applied_to_1)
def n_applied_to : SS := (sSeq (sPar2 3 4 (aCons (eCal 1 f_zero_of [] (aCons (eUn (atD "own_prime") (eVar 0)) aNil)) (aCons (eVar 1) aNil))) (sSeq w_applied_to_1 (sRet (eVar 3))))
def f_applied_to : FF := fnD 3 n_applied_to
def N_is_central : List Str := ["operator", "prime", "index", "entry"]
def P_is_central : List Str := ["operator"]
abbrev S_is_central : Scope := defScope (top 69)
def y_is_central_1 : SS := (sIf (eOr (eNot (eTest (eCal 1 f_is_of_t [] (aCons (eVar 3) aNil)))) (eAnd (eTest (eOp neD (eOp (ints2 modI) (eVar 2) (eVar 1)) (eC (.int 0)))) (eTest (eOp neE (eUn (atD "own_top") (eVar 3)) (eTup aNil))))) (sRet (eC (.bl false))) sNext)
def w_is_central_1 : SS := (sFor (iEnu (eUn (atD "own_entries") (eVar 0))) (gTupD (gNameD 2 :: gNameD 3 :: [])) y_is_central_1)
def n_is_central : SS := (sSeq (sDrop (eCal 1 f_require_operator [] (aCons (eVar 0) aNil))) (sSeq (sSet 1 (eUn (atD "own_prime") (eVar 0))) (sSeq w_is_central_1 (sRet (eC (.bl true))))))
def f_is_central : FF := fnD 3 n_is_central
def N_product_in : List Str := ["one", "other", "entry", "found", "here"]
def P_product_in : List Str := ["one", "other"]
abbrev S_product_in : Scope := defScope (top 58)
def y_product_in_1 : SS := (sSeq (sSet 3 (eCal 3 f_sum_in [] (aCons (eVar 3) (aCons (eCal 2 f_scaled_in [] (aCons (eVar 2) (aCons (eVar 4) aNil))) (aCons (eC (.int 1)) aNil))))) (sSet 4 (eCal 1 f_slope_ahead [] (aCons (eVar 4) aNil))))
def w_product_in_1 : SS := (sFor (iSeq (eUn (atD "own_entries") (eVar 0))) (gNameD 2) y_product_in_1)
def n_product_in : SS := (sSeq (sPar2 3 4 (aCons (eCal 2 f_made_operator [] (aCons (eUn (atD "own_prime") (eVar 0)) (aCons (eTup aNil) aNil))) (aCons (eVar 1) aNil))) (sSeq w_product_in_1 (sRet (eVar 3))))
def f_product_in : FF := fnD 3 n_product_in
def N_Operator_led : List Str := ["self", "function"]
def P_Operator_led : List Str := ["self", "function"]
abbrev S_Operator_led : Scope := defScope (mem 66 10)
def n_Operator_led : SS := (sSeq (sDrop (eCal 1 f_require_function [] (aCons (eVar 1) aNil))) (sSeq (sDrop (eCal 2 f_require_same_prime [] (aCons (eVar 0) (aCons (eVar 1) aNil)))) (sRet (eCal 2 f_scaled_in [] (aCons (eVar 1) (aCons (eVar 0) aNil))))))
def f_Operator_led : FF := fnD 0 n_Operator_led
def N_Operator_monic : List Str := ["self"]
def P_Operator_monic : List Str := ["self"]
abbrev S_Operator_monic : Scope := defScope (mem 66 11)
def n_Operator_monic : SS := (sSeq (sIf (eTest (eOp eqE (eUn (atD "own_entries") (eVar 0)) (eTup aNil))) (sRaise ⟨.glo "InvalidOperation", none⟩) sNext) (sRet (eCal 2 f_scaled_in [] (aCons (eOB [("Function", f_Function___floordiv__)] (ints2 divI) (eCal 1 f_unit_of [] (aCons (eUn (atD "own_prime") (eVar 0)) aNil)) (eOp ixD (eUn (atD "own_entries") (eVar 0)) (eUn negD (eC (.int 1))))) (aCons (eVar 0) aNil)))))
def f_Operator_monic : FF := fnD 0 n_Operator_monic
def N_Operator___call__ : List Str := ["self", "function"]
def P_Operator___call__ : List Str := ["self", "function"]
abbrev S_Operator___call__ : Scope := defScope (mem 66 12)
def n_Operator___call__ : SS := (sSeq (sDrop (eCal 1 f_require_function [] (aCons (eVar 1) aNil))) (sSeq (sDrop (eCal 2 f_require_same_prime [] (aCons (eVar 0) (aCons (eVar 1) aNil)))) (sRet (eCal 2 f_applied_to [] (aCons (eVar 0) (aCons (eVar 1) aNil))))))
def f_Operator___call__ : FF := fnD 0 n_Operator___call__
def N_Operator___add__ : List Str := ["self", "other"]
def P_Operator___add__ : List Str := ["self", "other"]
abbrev S_Operator___add__ : Scope := defScope (mem 66 13)
def n_Operator___add__ : SS := (sSeq (sIf (eNot (eTest (eCB (isiO clsL) (aCons (eVar 1) (aCons (eC (.glo "Operator")) aNil))))) sStk sNext) (sSeq (sDrop (eCal 2 f_require_same_prime [] (aCons (eVar 0) (aCons (eVar 1) aNil)))) (sRet (eCal 3 f_sum_in [] (aCons (eVar 0) (aCons (eVar 1) (aCons (eC (.int 1)) aNil)))))))
def f_Operator___add__ : FF := fnD 0 n_Operator___add__
def N_Operator___sub__ : List Str := ["self", "other"]
def P_Operator___sub__ : List Str := ["self", "other"]
abbrev S_Operator___sub__ : Scope := defScope (mem 66 14)
def n_Operator___sub__ : SS := (sSeq (sIf (eNot (eTest (eCB (isiO clsL) (aCons (eVar 1) (aCons (eC (.glo "Operator")) aNil))))) sStk sNext) (sSeq (sDrop (eCal 2 f_require_same_prime [] (aCons (eVar 0) (aCons (eVar 1) aNil)))) (sRet (eCal 3 f_sum_in [] (aCons (eVar 0) (aCons (eVar 1) (aCons (eUn negD (eC (.int 1))) aNil)))))))
def f_Operator___sub__ : FF := fnD 0 n_Operator___sub__
def N_raised_operator : List Str := ["operator", "many", "found", "turn"]
def P_raised_operator : List Str := ["operator", "many"]
abbrev S_raised_operator : Scope := defScope (top 65)
def y_raised_operator_1 : SS := (sSet 2 (eCal 2 f_product_in [] (aCons (eVar 2) (aCons (eVar 0) aNil))))
def w_raised_operator_1 : SS := (sFor (iRngN 1 (aCons (eVar 1) aNil)) (gNameD 3) y_raised_operator_1)
def n_raised_operator : SS := (sSeq (sDrop (eCal 3 f_require_within [] (aCons (eVar 1) (aCons (eC (.int 0)) (aCons (eC c_MAX_RAISED_operators) aNil))))) (sSeq (sSet 2 (eCal 2 f_made_operator [] (aCons (eUn (atD "own_prime") (eVar 0)) (aCons (eTup (aCons (eCal 1 f_unit_of [] (aCons (eUn (atD "own_prime") (eVar 0)) aNil)) aNil)) aNil)))) (sSeq w_raised_operator_1 (sRet (eVar 2)))))
def f_raised_operator : FF := fnD 2 n_raised_operator
def N_Operator___mul__ : List Str := ["self", "other"]
def P_Operator___mul__ : List Str := ["self", "other"]
abbrev S_Operator___mul__ : Scope := defScope (mem 66 15)
def n_Operator___mul__ : SS := (sSeq (sIf (eNot (eTest (eCB (isiO clsL) (aCons (eVar 1) (aCons (eC (.glo "Operator")) aNil))))) sStk sNext) (sSeq (sDrop (eCal 2 f_require_same_prime [] (aCons (eVar 0) (aCons (eVar 1) aNil)))) (sRet (eCal 2 f_product_in [] (aCons (eVar 0) (aCons (eVar 1) aNil))))))
def f_Operator___mul__ : FF := fnD 0 n_Operator___mul__
def N_commutator : List Str := ["one", "other"]
def P_commutator : List Str := ["one", "other"]
abbrev S_commutator : Scope := defScope (top 68)
def n_commutator : SS := (sSeq (sDrop (eCal 1 f_require_operator [] (aCons (eVar 0) aNil))) (sSeq (sDrop (eCal 1 f_require_operator [] (aCons (eVar 1) aNil))) (sSeq (sDrop (eCal 2 f_require_same_prime [] (aCons (eVar 0) (aCons (eVar 1) aNil)))) (sRet (eCal 3 f_sum_in [] (aCons (eCal 2 f_product_in [] (aCons (eVar 0) (aCons (eVar 1) aNil))) (aCons (eCal 2 f_product_in [] (aCons (eVar 1) (aCons (eVar 0) aNil))) (aCons (eUn negD (eC (.int 1))) aNil))))))))
def f_commutator : FF := fnD 0 n_commutator
def N_Operator___pow__ : List Str := ["self", "many"]
def P_Operator___pow__ : List Str := ["self", "many"]
abbrev S_Operator___pow__ : Scope := defScope (mem 66 17)
def n_Operator___pow__ : SS := (sRet (eCal 2 f_raised_operator [] (aCons (eVar 0) (aCons (eVar 1) aNil))))
def f_Operator___pow__ : FF := fnD 0 n_Operator___pow__
def N__law_made_right : List Str := ["bag", "wrong", "some", "entries", "number", "odd", "calls", "unit", "nothing", "two", "call", "due"]
def P__law_made_right : List Str := ["bag"]
abbrev S__law_made_right : Scope := defScope (top 76)
def u__law_made_right_1 : EE := (eNew "Operator" ["own_entries", "own_prime"] 3 f_Operator___init__ (aCons (eVar 1) (aCons (eVar 3) aNil)))
def u__law_made_right_2 : EE := (eNew "Operator" ["own_entries", "own_prime"] 3 f_Operator___init__ (aCons (eC (.int 3)) (aCons (eVar 3) aNil)))
def u__law_made_right_3 : EE := (eNew "Operator" ["own_entries", "own_prime"] 3 f_Operator___init__ (aCons (eC (.int 3)) (aCons (eTup (aCons (eVar 7) (aCons (eVar 9) aNil))) aNil)))
def u__law_made_right_4 : EE := (eNew "Operator" ["own_entries", "own_prime"] 3 f_Operator___init__ (aCons (eC (.int 2)) (aCons (eTup (aCons (eVar 7) aNil)) aNil)))
def u__law_made_right_5 : EE := (eNew "Operator" ["own_entries", "own_prime"] 3 f_Operator___init__ (aCons (eC (.int 3)) (aCons (eOB [("Operator", f_Operator___mul__)] mulD (eTup (aCons (eVar 7) aNil)) (eC (.int 9))) aNil)))
def u__law_made_right_6 : EE := (eNew "Operator" ["own_entries", "own_prime"] 3 f_Operator___init__ (aCons (eC (.int 7)) (aCons (eTup aNil) aNil)))
def u__law_made_right_7 : EE := (eMeC [("Operator", f_Operator_slopes)] 3 (eC (.glo "Operator")) (aCons (eVar 1) (aCons (eVar 4) aNil)))
def u__law_made_right_8 : EE := (eMeC [("Operator", f_Operator_slopes)] 3 (eC (.glo "Operator")) (aCons (eC (.int 3)) (aCons (eVar 4) aNil)))
def u__law_made_right_9 : EE := (eMeC [("Operator", f_Operator_slopes)] 3 (eC (.glo "Operator")) (aCons (eC (.int 3)) (aCons (eC (.int 8)) aNil)))
def u__law_made_right_10 : EE := (eMeC [("Operator", f_Operator_factor)] 2 (eC (.glo "Operator")) (aCons (eVar 5) aNil))
def u__law_made_right_11 : EE := (eMeC [("Operator", f_Operator_times)] 2 (eC (.glo "Operator")) (aCons (eVar 5) aNil))
def n__law_made_right : SS := (sSeq (sSet 1 (eCalB 2 f__law_one_of [] (aCons (eVar 0) (aCons (eFz (fLst (aCons (eC .non) (aCons (eC (.int 0)) (aCons (eC (.int 1)) (aCons (eC (.int 4)) (aCons (eC (.int 11)) (aCons (eUn negD (eC (.int 3))) (aCons (eC (.bl true)) (aCons (eC (.str "3")) (aCons (eTup (aCons (eC (.int 3)) aNil)) (aCons (eOBT [("Operator", f_Operator___pow__)] (ints2 powI) (eC (.int 10)) (eC (.int 60))) aNil)))))))))))) aNil)))) (sSeq (sAsg (eTup (aCons (eMeC [("Function", f_Function_number)] 3 (eC (.glo "Function")) (aCons (eC (.int 3)) (aCons (eC (.int 1)) aNil))) (aCons (eMeC [("Function", f_Function_number)] 3 (eC (.glo "Function")) (aCons (eC (.int 3)) (aCons (eC (.int 0)) aNil))) (aCons (eMeC [("Function", f_Function_number)] 3 (eC (.glo "Function")) (aCons (eC (.int 2)) (aCons (eC (.int 1)) aNil))) aNil)))) (gTupD (gNameD 7 :: gNameD 8 :: gNameD 9 :: []))) (sSeq (sSet 2 (eFz (fLst (aCons (eC .non) (aCons (eC (.int 1)) (aCons (eFz (fLst (aCons (eVar 7) aNil))) (aCons (eVar 7) (aCons (eTup (aCons (eC (.int 1)) aNil)) (aCons (eTup (aCons (eVar 7) (aCons (eC .non) aNil))) (aCons (eTup (aCons (eVar 8) aNil)) (aCons (eTup (aCons (eVar 7) (aCons (eVar 8) aNil))) (aCons (eOB [("Operator", f_Operator___mul__)] mulD (eTup (aCons (eVar 7) aNil)) (eC (.int 10))) (aCons (eC (.str "1")) (aCons eDict0 (aCons (eTup (aCons (eVar 7) (aCons (eTup (aCons (eC (.int 1)) aNil)) aNil))) aNil))))))))))))))) (sSeq (sSet 3 (eCalB 2 f__law_one_of [] (aCons (eVar 0) (aCons (eVar 2) aNil)))) (sSeq (sSet 4 (eCalB 2 f__law_one_of [] (aCons (eVar 0) (aCons (eFz (fLst (aCons (eC .non) (aCons (eUn negD (eC (.int 1))) (aCons (eC (.int 9)) (aCons (eC (.bl true)) (aCons (eC (.str "1")) (aCons (eTup (aCons (eC (.int 1)) aNil)) (aCons (eOBT [("Operator", f_Operator___pow__)] (ints2 powI) (eC (.int 10)) (eC (.int 60))) aNil))))))))) aNil)))) (sSeq (sSet 5 (eCalB 2 f__law_one_of [] (aCons (eVar 0) (aCons (eFz (fLst (aCons (eC .non) (aCons (eC (.int 3)) (aCons (eC (.str "x")) (aCons (eTup (aCons (eC (.int 1)) aNil)) (aCons (eMeC [("Operator", f_Operator_slopes)] 3 (eC (.glo "Operator")) (aCons (eC (.int 3)) (aCons (eC (.int 1)) aNil))) (aCons (eFz (fLst (aCons (eVar 7) aNil))) aNil)))))))) aNil)))) (sSeq (sLams 6 [(eOB [("Operator", f_Operator___add__)] addD (eC (.str "number ")) (eCB reprG (aCons (eVar 1) aNil))), (eC (.str "operator")), (eC (.str "operation")), (eC (.str "operation")), (eC (.str "fine")), (eC (.str "fine")), (eOB [("Operator", f_Operator___add__)] addD (eC (.str "number ")) (eCB reprG (aCons (eVar 1) aNil))), (eOB [("Operator", f_Operator___add__)] addD (eC (.str "number ")) (eCB reprG (aCons (eVar 4) aNil))), (eC (.str "fine")), (eC (.str "function")), (eC (.str "function"))] (gRet (fLams 6 10 11 tab__law_fault hs__law_fault (.tup [.str "let", .str "fine"]) [u__law_made_right_1, u__law_made_right_2, u__law_made_right_3, u__law_made_right_4, u__law_made_right_5, u__law_made_right_6, u__law_made_right_7, u__law_made_right_8, u__law_made_right_9, u__law_made_right_10, u__law_made_right_11]))) sNext)))))))
def f__law_made_right : FF := fnD 11 n__law_made_right
def N__law_used_right : List Str := ["bag", "odd", "none", "high", "calls", "line", "other", "unit", "call", "due"]
def P__law_used_right : List Str := ["bag"]
abbrev S__law_used_right : Scope := defScope (top 77)
def u__law_used_right_1 : EE := (eMe [("Operator", f_Operator___call__)] 2 (eVar 5) (aCons (eVar 1) aNil))
def u__law_used_right_2 : EE := (eMe [("Operator", f_Operator___call__)] 2 (eVar 5) (aCons (eMeC [("Function", f_Function_number)] 3 (eC (.glo "Function")) (aCons (eC (.int 2)) (aCons (eC (.int 1)) aNil))) aNil))
def u__law_used_right_3 : EE := (eMe [("Operator", f_Operator_led)] 2 (eVar 5) (aCons (eVar 1) aNil))
def u__law_used_right_4 : EE := (eMe [("Operator", f_Operator_led)] 2 (eVar 5) (aCons (eMeC [("Function", f_Function_number)] 3 (eC (.glo "Function")) (aCons (eC (.int 5)) (aCons (eC (.int 0)) aNil))) aNil))
def u__law_used_right_5 : EE := (eMe [("Operator", f_Operator_entry)] 2 (eVar 5) (aCons (eVar 3) aNil))
def u__law_used_right_6 : EE := (eMe [("Operator", f_Operator_entry)] 2 (eVar 5) (aCons (eC (.int 1000)) aNil))
def u__law_used_right_7 : EE := (eMe [("Operator", f_Operator_monic)] 1 (eNew "Operator" ["own_entries", "own_prime"] 3 f_Operator___init__ (aCons (eC (.int 3)) (aCons (eTup aNil) aNil))) aNil)
def u__law_used_right_8 : EE := (eOB [("Operator", f_Operator___add__)] addD (eVar 5) (eVar 6))
def u__law_used_right_9 : EE := (eOB [("Operator", f_Operator___sub__)] (ints2 fun i j => some (.int (i - j))) (eVar 5) (eVar 6))
def u__law_used_right_10 : EE := (eOB [("Operator", f_Operator___mul__)] mulD (eVar 5) (eVar 6))
def u__law_used_right_11 : EE := (eOBT [("Operator", f_Operator___pow__)] (ints2 powI) (eVar 5) (eC (.int 9)))
def u__law_used_right_12 : EE := (eOBT [("Operator", f_Operator___pow__)] (ints2 powI) (eVar 5) (eC (.int 8)))
def u__law_used_right_13 : EE := (eCal 2 f_commutator [] (aCons (eVar 2) (aCons (eVar 2) aNil)))
def u__law_used_right_14 : EE := (eCal 2 f_commutator [] (aCons (eVar 5) (aCons (eVar 2) aNil)))
def u__law_used_right_15 : EE := (eCal 2 f_commutator [] (aCons (eVar 5) (aCons (eVar 6) aNil)))
def u__law_used_right_16 : EE := (eCal 1 f_is_central [] (aCons (eVar 2) aNil))
def u__law_used_right_17 : EE := (eFz (fLGen 2 f_each_made ["InvalidOperator", "InvalidFunction", "InvalidOperation"] (aCons (eVar 2) (aCons (eVar 1) aNil))))
def u__law_used_right_18 : EE := (eFz (fLGen 2 f_each_made ["InvalidOperator", "InvalidFunction", "InvalidOperation"] (aCons (eVar 5) (aCons (eVar 1) aNil))))
def u__law_used_right_19 : EE := (eFz (fLGen 2 f_each_made ["InvalidOperator", "InvalidFunction", "InvalidOperation"] (aCons (eVar 5) (aCons (eTup (aCons (eVar 7) (aCons (eMeC [("Function", f_Function_number)] 3 (eC (.glo "Function")) (aCons (eC (.int 2)) (aCons (eC (.int 1)) aNil))) aNil))) aNil))))
def u__law_used_right_20 : EE := (eFz (fLGen 2 f_each_made ["InvalidOperator", "InvalidFunction", "InvalidOperation"] (aCons (eVar 5) (aCons (eTup aNil) aNil))))
def n__law_used_right : SS := (sSeq (sAsg (eTup (aCons (eMeC [("Operator", f_Operator_slopes)] 3 (eC (.glo "Operator")) (aCons (eC (.int 3)) (aCons (eC (.int 1)) aNil))) (aCons (eMeC [("Operator", f_Operator_slopes)] 3 (eC (.glo "Operator")) (aCons (eC (.int 2)) (aCons (eC (.int 1)) aNil))) (aCons (eMeC [("Function", f_Function_number)] 3 (eC (.glo "Function")) (aCons (eC (.int 3)) (aCons (eC (.int 1)) aNil))) aNil)))) (gTupD (gNameD 5 :: gNameD 6 :: gNameD 7 :: []))) (sSeq (sSet 1 (eCalB 2 f__law_one_of [] (aCons (eVar 0) (aCons (eFz (fLst (aCons (eC .non) (aCons (eC (.int 3)) (aCons (eC (.str "x")) (aCons (eTup (aCons (eC (.int 1)) aNil)) (aCons (eVar 5) (aCons (eFz (fLst (aCons (eVar 7) aNil))) (aCons eDict0 aNil))))))))) aNil)))) (sSeq (sSet 2 (eCalB 2 f__law_one_of [] (aCons (eVar 0) (aCons (eFz (fLst (aCons (eC .non) (aCons (eC (.int 0)) (aCons (eC (.str "D")) (aCons (eTup (aCons (eVar 7) aNil)) (aCons (eVar 7) (aCons (eFz (fLst (aCons (eVar 5) aNil))) (aCons eDict0 aNil))))))))) aNil)))) (sSeq (sSet 3 (eCalB 2 f__law_one_of [] (aCons (eVar 0) (aCons (eFz (fLst (aCons (eC .non) (aCons (eUn negD (eC (.int 1))) (aCons (eC (.int 1001)) (aCons (eC (.bl true)) (aCons (eC (.str "1")) (aCons (eTup (aCons (eC (.int 1)) aNil)) (aCons (eOBT [("Operator", f_Operator___pow__)] (ints2 powI) (eC (.int 10)) (eC (.int 60))) aNil))))))))) aNil)))) (sSeq (sLams 4 [(eC (.str "function")), (eC (.str "operation")), (eC (.str "function")), (eC (.str "operation")), (eOB [("Operator", f_Operator___add__)] addD (eC (.str "number ")) (eCB reprG (aCons (eVar 3) aNil))), (eC (.str "fine")), (eC (.str "operation")), (eC (.str "operation")), (eC (.str "operation")), (eC (.str "operation")), (eC (.str "number 9")), (eC (.str "fine")), (eC (.str "operator")), (eC (.str "operator")), (eC (.str "operation")), (eC (.str "operator")), (eC (.str "operator")), (eC (.str "function")), (eC (.str "operation")), (eC (.str "fine"))] (gRet (fLams 4 8 9 tab__law_fault hs__law_fault (.tup [.str "let", .str "fine"]) [u__law_used_right_1, u__law_used_right_2, u__law_used_right_3, u__law_used_right_4, u__law_used_right_5, u__law_used_right_6, u__law_used_right_7, u__law_used_right_8, u__law_used_right_9, u__law_used_right_10, u__law_used_right_11, u__law_used_right_12, u__law_used_right_13, u__law_used_right_14, u__law_used_right_15, u__law_used_right_16, u__law_used_right_17, u__law_used_right_18, u__law_used_right_19, u__law_used_right_20]))) sNext)))))
def f__law_used_right : FF := fnD 9 n__law_used_right
def N_law : List Str := ["script", "spot", "bag"]
def P_law : List Str := ["script"]
abbrev S_law : Scope := defScope (top 78)
def y_law_1 : SS := (sSeq (sSet 2 (eHnd (fCal 2 f__law_bag [] (aCons (eVar 0) (aCons (eVar 1) aNil))))) (sIf (eOr (eNot (eTest (eCalB 1 f__law_made_right [] (aCons (eVar 2) aNil)))) (eNot (eTest (eCalB 1 f__law_used_right [] (aCons (eVar 2) aNil))))) (sRet (eC (.bl false))) sNext))
def w_law_1 : SS := (sFor (iRngN 1 (aCons (eCB max2D (aCons (eC (.int 1)) (aCons (eCB min2D (aCons (eC (.int 4)) (aCons (eCB lenD (aCons (eVar 0) aNil)) aNil))) aNil))) aNil)) (gNameD 1) y_law_1)
def n_law : SS := (sSeq w_law_1 (sRet (eAndV (eOE [("Operator", f_Operator___eq__)] false eqD (ePr [("Function", f_Function_degree), ("Operator", f_Operator_degree)] (eNew "Operator" ["own_entries", "own_prime"] 3 f_Operator___init__ (aCons (eC (.int 3)) (aCons (eTup aNil) aNil)))) (eUn negD (eC (.int 1)))) (eOE [("Operator", f_Operator___eq__)] false eqD (eLenO [("Operator", f_Operator___len__)] (eMeC [("Operator", f_Operator_slopes)] 3 (eC (.glo "Operator")) (aCons (eC (.int 7)) (aCons (eC (.int 8)) aNil)))) (eC (.int 9))))))
def f_law : FF := fnD 2 n_law
theorem b_is_whole (M : Mo) (m_int : M.mg "int" = none) (hi_ : HasI M clsL) (m_isinstance : M.mg "isinstance" = none) (m_bool : M.mg "bool" = none) (W : WX) : DB M 0 W N_is_whole ⟨S_is_whole, S_is_whole, none, false, none⟩ (defBody (top 12)) n_is_whole :=
  (db_one (d1_ret (de_and (de_blt (bl_isiO hi_) m_isinstance (da_cons (de_var 0 rfl (.inl rfl)) (da_cons (de_ty m_int (by decide +kernel)) da_nil))) (de_one (de_not (de_blt (bl_isiO hi_) m_isinstance (da_cons (de_var 0 rfl (.inl rfl)) (da_cons (de_ty m_bool (by decide +kernel)) da_nil))))))))
theorem b_undone_number (M : Mo)  (W : WX) : DB M 0 W N_undone_number ⟨S_undone_number, S_undone_number, none, false, none⟩ (defBody (top 17)) n_undone_number :=
  (db_cons (d1_par3 2 3 4 rfl rfl rfl (by decide) (by decide) (by decide) rfl rfl rfl (da_cons de_int (da_cons (de_mod (de_var 1 rfl (.inl rfl)) (de_var 0 rfl (.inl rfl))) (da_cons (de_sub (de_var 0 rfl (.inl rfl)) de_int) da_nil)))) (db_cons (d1_while 100000 (dt_cmp cm_gt (de_var 4 rfl (.inl rfl)) de_int) (db_cons (d1_set 2 rfl (.inl rfl) (.inl rfl) (de_if (dt_cmp cm_eq (de_mod (de_var 4 rfl (.inl rfl)) de_int) de_int) (de_mod (de_mul (de_var 2 rfl (.inl rfl)) (de_var 3 rfl (.inl rfl))) (de_var 0 rfl (.inl rfl))) (de_var 2 rfl (.inl rfl)))) (db_one (d1_par2 3 4 rfl rfl (by decide) rfl rfl (da_cons (de_mod (de_mul (de_var 3 rfl (.inl rfl)) (de_var 3 rfl (.inl rfl))) (de_var 0 rfl (.inl rfl))) (da_cons (de_fdiv (de_var 4 rfl (.inl rfl)) de_int) da_nil)))))) (db_one (d1_ret (de_var 2 rfl (.inl rfl))))))
theorem b_trimmed (M : Mo) (m_tuple : M.mg "tuple" = none) (W : WX) : DB M 0 W N_trimmed ⟨S_trimmed, S_trimmed, none, false, none⟩ (defBody (top 20)) n_trimmed :=
  (db_cons (d1_setLcH 2 rfl rfl [("number", 3)] (di_seq (de_var 1 rfl (.inl rfl))) (blkOk_by (by first | decide +kernel | (dsimp only; decide +kernel))) (dg_name 3 rfl (.inl rfl) (.inl rfl)) dts_nil (de_mod (de_var 3 rfl (.inl rfl)) (de_var 0 rfl (.inr (.inl rfl))))) (db_cons (d1_while 100000 (dt_w (dw_and (dt_cmp cm_ne (de_var 2 rfl (.inl rfl)) (de_fz (df_lst da_nil))) (dw_and1 (dt_cmp cm_eq (de_ix (de_var 2 rfl (.inl rfl)) (de_neg de_int)) de_int)))) (db_one (d1_expr (de_pop (de_var 2 rfl (.inl rfl)))))) (db_one (d1_ret (de_bltT bl_tuple m_tuple (da_cons (de_var 2 rfl (.inl rfl)) da_nil))))))
theorem b_number_at (M : Mo) (m_len : M.mg "len" = none) (W : WX) : DB M 0 W N_number_at ⟨S_number_at, S_number_at, none, false, none⟩ (defBody (top 22)) n_number_at :=
  (db_one (d1_ret (de_if (dt_cmp cm_lt (de_var 1 rfl (.inl rfl)) (de_blt bl_len m_len (da_cons (de_var 0 rfl (.inl rfl)) da_nil))) (de_ix (de_var 0 rfl (.inl rfl)) (de_var 1 rfl (.inl rfl))) de_int)))
theorem b_Lowest___init__ (M : Mo)  (W : WX) : DB M 0 W N_Lowest___init__ ⟨S_Lowest___init__, S_Lowest___init__, none, false, none⟩ (defBody (mem 33 1)) n_Lowest___init__ :=
  (db_one (d1_att (de_var 1 rfl (.inl rfl)) (de_var 0 rfl (.inl rfl))))
theorem b_Function_degree (M : Mo) (m_len : M.mg "len" = none) (W : WX) : DB M 0 W N_Function_degree ⟨S_Function_degree, S_Function_degree, none, false, none⟩ (defBody (mem 34 8)) n_Function_degree :=
  (db_one (d1_ret (de_if (dt_cmp cm_neE (de_at (de_var 0 rfl (.inl rfl))) (de_tup da_nil)) (de_sub (de_blt bl_len m_len (da_cons (de_at (de_var 0 rfl (.inl rfl))) da_nil)) (de_blt bl_len m_len (da_cons (de_at (de_var 0 rfl (.inl rfl))) da_nil))) de_non)))
theorem b_Function___eq__ (M : Mo) (c_Function : ∃ C, M.mg "Function" = some (.ref C)) (hi_ : HasI M clsL) (m_isinstance : M.mg "isinstance" = none) (W : WX) : DB M 0 W N_Function___eq__ ⟨S_Function___eq__, S_Function___eq__, none, false, none⟩ (defBody (mem 34 20)) n_Function___eq__ :=
  (db_cons (d1_if (dt_w (dw_or (dt_not (dt_val (de_blt (bl_isiO hi_) m_isinstance (da_cons (de_var 1 rfl (.inl rfl)) (da_cons (de_cls c_Function) da_nil))))) (dw_or1 (dt_cmp cm_ne (de_at (de_var 0 rfl (.inl rfl))) (de_at (de_var 1 rfl (.inl rfl))))))) (db_one (d1_ret de_bl)) db_nil) (db_one (d1_ret (de_and (de_cmp cm_eq (de_at (de_var 0 rfl (.inl rfl))) (de_at (de_var 1 rfl (.inl rfl)))) (de_one (de_cmp cm_eq (de_at (de_var 0 rfl (.inl rfl))) (de_at (de_var 1 rfl (.inl rfl)))))))))
theorem b_require_function (M : Mo) (c_Function : ∃ C, M.mg "Function" = some (.ref C)) (hi_ : HasI M clsL) (m_isinstance : M.mg "isinstance" = none) (xr_InvalidFunction : XOwn M "InvalidFunction") (W : WX) : DB M 0 W N_require_function ⟨S_require_function, S_require_function, none, false, none⟩ (defBody (top 46)) n_require_function :=
  (db_one (d1_if (dt_not (dt_val (de_blt (bl_isiO hi_) m_isinstance (da_cons (de_var 0 rfl (.inl rfl)) (da_cons (de_cls c_Function) da_nil))))) (db_one (d1_raise xr_InvalidFunction)) db_nil))
theorem b_require_same_prime (M : Mo) (xr_InvalidOperation : XOwn M "InvalidOperation") (W : WX) : DB M 0 W N_require_same_prime ⟨S_require_same_prime, S_require_same_prime, none, false, none⟩ (defBody (top 47)) n_require_same_prime :=
  (db_one (d1_if (dt_cmp cm_ne (de_at (de_var 0 rfl (.inl rfl))) (de_at (de_var 1 rfl (.inl rfl)))) (db_one (d1_raise xr_InvalidOperation)) db_nil))
theorem b_trimmed_entries (M : Mo) (m_list : M.mg "list" = none) (m_tuple : M.mg "tuple" = none) (W : WX) : DB M 0 W N_trimmed_entries ⟨S_trimmed_entries, S_trimmed_entries, none, false, none⟩ (defBody (top 53)) n_trimmed_entries :=
  (db_cons (d1_set 1 rfl (.inl rfl) (.inl rfl) (de_hnd (df_bltT bl_list m_list (da_cons (de_var 0 rfl (.inl rfl)) da_nil)))) (db_cons (d1_while 100000 (dt_w (dw_and (dt_cmp cm_neE (de_var 1 rfl (.inl rfl)) (de_fz (df_lst da_nil))) (dw_and1 (dt_cmp cm_eqE (de_at (de_ix (de_var 1 rfl (.inl rfl)) (de_neg de_int))) (de_tup da_nil))))) (db_one (d1_expr (de_pop (de_var 1 rfl (.inl rfl)))))) (db_one (d1_ret (de_bltT bl_tuple m_tuple (da_cons (de_var 1 rfl (.inl rfl)) da_nil))))))
theorem b_KeptEntries___init__ (M : Mo)  (W : WX) : DB M 0 W N_KeptEntries___init__ ⟨S_KeptEntries___init__, S_KeptEntries___init__, none, false, none⟩ (defBody (mem 61 1)) n_KeptEntries___init__ :=
  (db_one (d1_att (de_var 1 rfl (.inl rfl)) (de_var 0 rfl (.inl rfl))))
theorem b_entries_told (M : Mo) (c_KeptEntries : ∃ C, M.mg "KeptEntries" = some (.ref C)) (hi_ : HasI M clsL) (m_isinstance : M.mg "isinstance" = none) (m_tuple : M.mg "tuple" = none) (m_len : M.mg "len" = none) (g_MAX_ENTRIES : Glb M "MAX_ENTRIES" c_MAX_ENTRIES) (xr_InvalidOperator : XOwn M "InvalidOperator") (c_Function : ∃ C, M.mg "Function" = some (.ref C)) (m_all : M.mg "all" = none) (m_any : M.mg "any" = none) (xr_InvalidOperation : XOwn M "InvalidOperation") (W : WX) : DB M 0 W N_entries_told ⟨S_entries_told, S_entries_told, none, false, none⟩ (defBody (top 62)) n_entries_told :=
  (db_cons (d1_if (dt_val (de_blt (bl_isiO hi_) m_isinstance (da_cons (de_var 1 rfl (.inl rfl)) (da_cons (de_cls c_KeptEntries) da_nil)))) (db_one (d1_ret (de_at (de_var 1 rfl (.inl rfl))))) db_nil) (db_cons (d1_if (dt_w (dw_or (dt_not (dt_val (de_blt (bl_isiO hi_) m_isinstance (da_cons (de_var 1 rfl (.inl rfl)) (da_cons (de_ty m_tuple (by decide +kernel)) da_nil))))) (dw_or1 (dt_cmp cm_gt (de_blt bl_len m_len (da_cons (de_var 1 rfl (.inl rfl)) da_nil)) (de_glob g_MAX_ENTRIES))))) (db_one (d1_raise xr_InvalidOperator)) db_nil) (db_cons (d1_if (dt_w (dw_or (dt_not (dt_val (de_blt bl_all m_all (da_cons (de_fz (df_lc [("entry", 2)] (di_seq (de_var 1 rfl (.inl rfl))) (blkOk_by (by first | decide +kernel | (dsimp only; decide +kernel))) (dg_name 2 rfl (.inl rfl) (.inl rfl)) dts_nil (de_blt (bl_isiO hi_) m_isinstance (da_cons (de_var 2 rfl (.inl rfl)) (da_cons (de_cls c_Function) da_nil))))) da_nil)))) (dw_or1 (dt_w (dw_and (dt_cmp cm_neE (de_var 1 rfl (.inl rfl)) (de_tup da_nil)) (dw_and1 (dt_cmp cm_eqE (de_at (de_ix (de_var 1 rfl (.inl rfl)) (de_neg de_int))) (de_tup da_nil)))))))) (db_one (d1_raise xr_InvalidOperator)) db_nil) (db_cons (d1_if (dt_val (de_blt bl_any m_any (da_cons (de_fz (df_lc [("entry", 2)] (di_seq (de_var 1 rfl (.inl rfl))) (blkOk_by (by first | decide +kernel | (dsimp only; decide +kernel))) (dg_name 2 rfl (.inl rfl) (.inl rfl)) dts_nil (de_cmp cm_ne (de_at (de_var 2 rfl (.inl rfl))) (de_var 0 rfl (.inr (.inl rfl)))))) da_nil))) (db_one (d1_raise xr_InvalidOperation)) db_nil) (db_one (d1_ret (de_var 1 rfl (.inl rfl))))))))
theorem b_Operator_degree (M : Mo) (m_len : M.mg "len" = none) (W : WX) : DB M 0 W N_Operator_degree ⟨S_Operator_degree, S_Operator_degree, none, false, none⟩ (defBody (mem 66 7)) n_Operator_degree :=
  (db_one (d1_ret (de_sub (de_blt bl_len m_len (da_cons (de_at (de_var 0 rfl (.inl rfl))) da_nil)) de_int)))
theorem b_Operator___len__ (M : Mo) (m_len : M.mg "len" = none) (W : WX) : DB M 0 W N_Operator___len__ ⟨S_Operator___len__, S_Operator___len__, none, false, none⟩ (defBody (mem 66 20)) n_Operator___len__ :=
  (db_one (d1_ret (de_blt bl_len m_len (da_cons (de_at (de_var 0 rfl (.inl rfl))) da_nil))))
theorem b_require_operator (M : Mo) (c_Operator : ∃ C, M.mg "Operator" = some (.ref C)) (hi_ : HasI M clsL) (m_isinstance : M.mg "isinstance" = none) (xr_InvalidOperator : XOwn M "InvalidOperator") (W : WX) : DB M 0 W N_require_operator ⟨S_require_operator, S_require_operator, none, false, none⟩ (defBody (top 67)) n_require_operator :=
  (db_one (d1_if (dt_not (dt_val (de_blt (bl_isiO hi_) m_isinstance (da_cons (de_var 0 rfl (.inl rfl)) (da_cons (de_cls c_Operator) da_nil))))) (db_one (d1_raise xr_InvalidOperator)) db_nil))
theorem b__law_bag (M : Mo) (m_len : M.mg "len" = none) (m_abs : M.mg "abs" = none) (m_int : M.mg "int" = none) (m_max : M.mg "max" = none) (W : WX) : DB M 0 W N__law_bag ⟨S__law_bag, S__law_bag, none, false, none⟩ (defBody (top 72)) n__law_bag :=
  (db_cons (d1_set 2 rfl (.inl rfl) (.inl rfl) (de_if (dt_cmp cm_lt (de_var 1 rfl (.inl rfl)) (de_blt bl_len m_len (da_cons (de_var 0 rfl (.inl rfl)) da_nil))) (de_ix (de_var 0 rfl (.inl rfl)) (de_var 1 rfl (.inl rfl))) (de_add (de_mul de_int (de_var 1 rfl (.inl rfl))) de_int))) (db_cons (d1_set 3 rfl (.inl rfl) (.inl rfl) (de_mod (de_bltT bl_int m_int (da_cons (de_blt bl_abs m_abs (da_cons (de_var 2 rfl (.inl rfl)) da_nil)) da_nil)) (de_mul (de_pow de_int de_int) (de_pow de_int de_int)))) (db_cons (d1_set 4 rfl (.inl rfl) (.inl rfl) (de_add (de_add (de_add (de_mul (de_mod (de_var 3 rfl (.inl rfl)) de_int) de_int) (de_mul de_int (de_var 1 rfl (.inl rfl)))) (de_mul de_int (de_bltT bl_int m_int (da_cons (de_cmp cm_lt (de_var 2 rfl (.inl rfl)) de_int) da_nil)))) de_int)) (db_one (d1_ret (de_hnd (df_lst (da_cons (de_blt bl_max2 m_max (da_cons de_int (da_cons (de_sub (de_var 3 rfl (.inl rfl)) (de_pow de_int de_int)) da_nil))) (da_cons (de_mod (de_bltT bl_int m_int (da_cons (de_var 4 rfl (.inl rfl)) da_nil)) de_int) (da_cons de_int da_nil))))))))))
theorem b__law_grab (M : Mo) (m_int : M.mg "int" = none) (W : WX) : DB M 0 W N__law_grab ⟨S__law_grab, S__law_grab, none, false, none⟩ (defBody (top 73)) n__law_grab :=
  (db_cons (d1_if (dt_cmp cm_gt (de_ix (de_var 0 rfl (.inl rfl)) de_int) de_int) (db_cons (d1_set 4 rfl (.inl rfl) (.inl rfl) (de_mod (de_bltT bl_int m_int (da_cons (de_ix (de_var 0 rfl (.inl rfl)) de_int) da_nil)) (de_var 1 rfl (.inl rfl)))) (db_cons (d1_put (de_fdiv (de_ix (de_var 0 rfl (.inl rfl)) de_int) (de_var 1 rfl (.inl rfl))) (de_var 0 rfl (.inl rfl)) de_int) (db_one (d1_ret (de_var 4 rfl (.inl rfl)))))) db_nil) (db_cons (d1_put (de_add (de_ix (de_var 0 rfl (.inl rfl)) de_int) de_int) (de_var 0 rfl (.inl rfl)) de_int) (db_cons (d1_set 2 rfl (.inl rfl) (.inl rfl) (de_mod (de_bltT bl_int m_int (da_cons (de_add (de_ix (de_var 0 rfl (.inl rfl)) de_int) (de_mul de_int (de_ix (de_var 0 rfl (.inl rfl)) de_int))) da_nil)) de_int)) (db_cons (d1_set 3 rfl (.inl rfl) (.inl rfl) (de_add (de_mul (de_mod (de_bltT bl_int m_int (da_cons (de_add (de_mul (de_var 2 rfl (.inl rfl)) (de_var 2 rfl (.inl rfl))) (de_mul de_int (de_ix (de_var 0 rfl (.inl rfl)) de_int))) da_nil)) de_int) de_int) (de_var 2 rfl (.inl rfl)))) (db_one (d1_ret (de_mod (de_bltT bl_int m_int (da_cons (de_fdiv (de_var 3 rfl (.inl rfl)) de_int) da_nil)) (de_var 1 rfl (.inl rfl)))))))))
theorem b_is_integer (M : Mo) (h_is_whole : Has M "is_whole" 1 P_is_whole [] (spD M.G 1 f_is_whole)) (g_MOST_FIGURES : Glb M "MOST_FIGURES" c_MOST_FIGURES) (W : WX) : DB M 1 W N_is_integer ⟨S_is_integer, S_is_integer, none, false, none⟩ (defBody (top 13)) n_is_integer :=
  (db_one (d1_ret (de_and (de_call h_is_whole (by decide) (fun _ _ => Reps.nil) (da_cons (de_var 0 rfl (.inl rfl)) da_nil)) (de_one (de_chain cm_lt cm_lt (de_neg (de_glob g_MOST_FIGURES)) (de_var 0 rfl (.inl rfl)) (de_glob g_MOST_FIGURES))))))
theorem b_is_within (M : Mo) (h_is_whole : Has M "is_whole" 1 P_is_whole [] (spD M.G 1 f_is_whole)) (W : WX) : DB M 1 W N_is_within ⟨S_is_within, S_is_within, none, false, none⟩ (defBody (top 14)) n_is_within :=
  (db_one (d1_ret (de_and (de_call h_is_whole (by decide) (fun _ _ => Reps.nil) (da_cons (de_var 0 rfl (.inl rfl)) da_nil)) (de_one (de_chain cm_le cm_le (de_var 1 rfl (.inl rfl)) (de_var 0 rfl (.inl rfl)) (de_var 2 rfl (.inl rfl)))))))
theorem b_require_prime (M : Mo) (h_is_whole : Has M "is_whole" 1 P_is_whole [] (spD M.G 1 f_is_whole)) (g_PRIMES : Glb M "PRIMES" c_PRIMES) (xk_InvalidNumber : XKeep M "InvalidNumber" "given") (W : WX) : DB M 1 W N_require_prime ⟨S_require_prime, S_require_prime, none, false, none⟩ (defBody (top 16)) n_require_prime :=
  (db_one (d1_if (dt_w (dw_or (dt_not (dt_val (de_call h_is_whole (by decide) (fun _ _ => Reps.nil) (da_cons (de_var 0 rfl (.inl rfl)) da_nil)))) (dw_or1 (dt_cmp cm_notin (de_var 0 rfl (.inl rfl)) (de_glob g_PRIMES))))) (db_one (d1_raiseV xk_InvalidNumber (by decide) (de_var 0 rfl (.inl rfl)))) db_nil))
theorem b_plus_in (M : Mo) (h_number_at : Has M "number_at" 1 P_number_at [] (spD M.G 2 f_number_at)) (h_trimmed : Has M "trimmed" 1 P_trimmed [] (spD M.G 2 f_trimmed)) (m_len : M.mg "len" = none) (m_max : M.mg "max" = none) (m_range : M.mg "range" = none) (W : WX) : DB M 1 W N_plus_in ⟨S_plus_in, S_plus_in, none, false, none⟩ (defBody (top 21)) n_plus_in :=
  (db_cons (d1_set 4 rfl (.inl rfl) (.inl rfl) (de_blt bl_max2 m_max (da_cons (de_blt bl_len m_len (da_cons (de_var 1 rfl (.inr (.inl rfl))) da_nil)) (da_cons (de_blt bl_len m_len (da_cons (de_var 2 rfl (.inr (.inl rfl))) da_nil)) da_nil)))) (db_one (d1_ret (de_call h_trimmed (by decide) (fun _ _ => Reps.nil) (da_cons (de_var 0 rfl (.inl rfl)) (da_cons (de_fz (df_lc [("place", 5)] (di_rng1 m_range (da_cons (de_var 4 rfl (.inl rfl)) da_nil)) (blkOk_by (by first | decide +kernel | (dsimp only; decide +kernel))) (dg_name 5 rfl (.inl rfl) (.inl rfl)) dts_nil (de_add (de_call h_number_at (by decide) (fun _ _ => Reps.nil) (da_cons (de_var 1 rfl (.inr (.inl rfl))) (da_cons (de_var 5 rfl (.inl rfl)) da_nil))) (de_mul (de_var 3 rfl (.inr (.inl rfl))) (de_call h_number_at (by decide) (fun _ _ => Reps.nil) (da_cons (de_var 2 rfl (.inr (.inl rfl))) (da_cons (de_var 5 rfl (.inl rfl)) da_nil))))))) da_nil))))))
theorem b_times_in (M : Mo) (h_trimmed : Has M "trimmed" 1 P_trimmed [] (spD M.G 2 f_trimmed)) (m_len : M.mg "len" = none) (m_range : M.mg "range" = none) (m_enumerate : M.mg "enumerate" = none) (W : WX) : DB M 1 W N_times_in ⟨S_times_in, S_times_in, none, false, none⟩ (defBody (top 23)) n_times_in :=
  (db_cons (d1_if (dt_w (dw_or (dt_cmp cm_eq (de_var 1 rfl (.inl rfl)) (de_tup da_nil)) (dw_or1 (dt_cmp cm_eq (de_var 2 rfl (.inl rfl)) (de_tup da_nil))))) (db_one (d1_ret (de_tup da_nil))) db_nil) (db_cons (d1_setLcH 3 rfl rfl [("place", 4)] (di_rng1 m_range (da_cons (de_sub (de_add (de_blt bl_len m_len (da_cons (de_var 1 rfl (.inl rfl)) da_nil)) (de_blt bl_len m_len (da_cons (de_var 2 rfl (.inl rfl)) da_nil))) de_int) da_nil)) (blkOk_by (by first | decide +kernel | (dsimp only; decide +kernel))) (dg_name 4 rfl (.inl rfl) (.inl rfl)) dts_nil de_int) (db_cons (d1_for (vs := [4, 5]) (di_enu m_enumerate (de_var 1 rfl (.inl rfl))) (dg_tup (dgs_name 4 rfl (.inl rfl) (.inl rfl) (dgs_name 5 rfl (.inl rfl) (.inl rfl) dgs_nil))) (db_one (d1_if (dt_cmp cm_ne (de_var 5 rfl (.inl rfl)) de_int) (db_one (d1_for (vs := [6, 7]) (di_enu m_enumerate (de_var 2 rfl (.inl rfl))) (dg_tup (dgs_name 6 rfl (.inl rfl) (.inl rfl) (dgs_name 7 rfl (.inl rfl) (.inl rfl) dgs_nil))) (db_one (d1_put (de_add (de_ix (de_var 3 rfl (.inl rfl)) (de_add (de_var 4 rfl (.inl rfl)) (de_var 6 rfl (.inl rfl)))) (de_mul (de_var 5 rfl (.inl rfl)) (de_var 7 rfl (.inl rfl)))) (de_var 3 rfl (.inl rfl)) (de_add (de_var 4 rfl (.inl rfl)) (de_var 6 rfl (.inl rfl))))))) db_nil))) (db_one (d1_ret (de_call h_trimmed (by decide) (fun _ _ => Reps.nil) (da_cons (de_var 0 rfl (.inl rfl)) (da_cons (de_var 3 rfl (.inl rfl)) da_nil))))))))
theorem b_scaled_poly (M : Mo) (h_trimmed : Has M "trimmed" 1 P_trimmed [] (spD M.G 2 f_trimmed)) (W : WX) : DB M 1 W N_scaled_poly ⟨S_scaled_poly, S_scaled_poly, none, false, none⟩ (defBody (top 24)) n_scaled_poly :=
  (db_one (d1_ret (de_call h_trimmed (by decide) (fun _ _ => Reps.nil) (da_cons (de_var 0 rfl (.inl rfl)) (da_cons (de_fz (df_lc [("entry", 3)] (di_seq (de_var 1 rfl (.inl rfl))) (blkOk_by (by first | decide +kernel | (dsimp only; decide +kernel))) (dg_name 3 rfl (.inl rfl) (.inl rfl)) dts_nil (de_mul (de_var 2 rfl (.inr (.inl rfl))) (de_var 3 rfl (.inl rfl))))) da_nil)))))
theorem b_divided_in (M : Mo) (h_undone_number : Has M "undone_number" 1 P_undone_number [] (spD M.G 2 f_undone_number)) (h_trimmed : Has M "trimmed" 1 P_trimmed [] (spD M.G 2 f_trimmed)) (m_len : M.mg "len" = none) (m_range : M.mg "range" = none) (m_enumerate : M.mg "enumerate" = none) (W : WX) : DB M 1 W N_divided_in ⟨S_divided_in, S_divided_in, none, false, none⟩ (defBody (top 25)) n_divided_in :=
  (db_cons (d1_par2 6 7 rfl rfl (by decide) rfl rfl (da_cons (de_blt bl_len m_len (da_cons (de_var 2 rfl (.inl rfl)) da_nil)) (da_cons (de_call h_undone_number (by decide) (fun _ _ => Reps.nil) (da_cons (de_var 0 rfl (.inl rfl)) (da_cons (de_ix (de_var 2 rfl (.inl rfl)) (de_neg de_int)) da_nil))) da_nil))) (db_cons (d1_setLcH 3 rfl rfl [("number", 9)] (di_seq (de_var 1 rfl (.inl rfl))) (blkOk_by (by first | decide +kernel | (dsimp only; decide +kernel))) (dg_name 9 rfl (.inl rfl) (.inl rfl)) dts_nil (de_var 9 rfl (.inl rfl))) (db_cons (d1_setLcH 4 rfl rfl [("place", 5)] (di_rng1 m_range (da_cons (de_add (de_sub (de_blt bl_len m_len (da_cons (de_var 1 rfl (.inl rfl)) da_nil)) (de_var 6 rfl (.inl rfl))) de_int) da_nil)) (blkOk_by (by first | decide +kernel | (dsimp only; decide +kernel))) (dg_name 5 rfl (.inl rfl) (.inl rfl)) dts_nil de_int) (db_cons (d1_for (vs := [5]) (di_rng3 m_range (da_cons (de_sub (de_blt bl_len m_len (da_cons (de_var 1 rfl (.inl rfl)) da_nil)) (de_var 6 rfl (.inl rfl))) (da_cons (de_neg de_int) (da_cons (de_neg de_int) da_nil)))) (dg_name 5 rfl (.inl rfl) (.inl rfl)) (db_cons (d1_set 8 rfl (.inl rfl) (.inl rfl) (de_mod (de_mul (de_ix (de_var 3 rfl (.inl rfl)) (de_sub (de_add (de_var 5 rfl (.inl rfl)) (de_var 6 rfl (.inl rfl))) de_int)) (de_var 7 rfl (.inl rfl))) (de_var 0 rfl (.inl rfl)))) (db_cons (d1_put (de_var 8 rfl (.inl rfl)) (de_var 4 rfl (.inl rfl)) (de_var 5 rfl (.inl rfl))) (db_one (d1_if (dt_cmp cm_ne (de_var 8 rfl (.inl rfl)) de_int) (db_one (d1_for (vs := [10, 9]) (di_enu m_enumerate (de_var 2 rfl (.inl rfl))) (dg_tup (dgs_name 10 rfl (.inl rfl) (.inl rfl) (dgs_name 9 rfl (.inl rfl) (.inl rfl) dgs_nil))) (db_one (d1_put (de_mod (de_sub (de_ix (de_var 3 rfl (.inl rfl)) (de_add (de_var 5 rfl (.inl rfl)) (de_var 10 rfl (.inl rfl)))) (de_mul (de_var 8 rfl (.inl rfl)) (de_var 9 rfl (.inl rfl)))) (de_var 0 rfl (.inl rfl))) (de_var 3 rfl (.inl rfl)) (de_add (de_var 5 rfl (.inl rfl)) (de_var 10 rfl (.inl rfl))))))) db_nil))))) (db_one (d1_ret (de_tup (da_cons (de_call h_trimmed (by decide) (fun _ _ => Reps.nil) (da_cons (de_var 0 rfl (.inl rfl)) (da_cons (de_var 4 rfl (.inl rfl)) da_nil))) (da_cons (de_call h_trimmed (by decide) (fun _ _ => Reps.nil) (da_cons (de_var 0 rfl (.inl rfl)) (da_cons (de_var 3 rfl (.inl rfl)) da_nil))) da_nil)))))))))
theorem b_slope_of_poly (M : Mo) (h_trimmed : Has M "trimmed" 1 P_trimmed [] (spD M.G 2 f_trimmed)) (m_enumerate : M.mg "enumerate" = none) (W : WX) : DB M 1 W N_slope_of_poly ⟨S_slope_of_poly, S_slope_of_poly, none, false, none⟩ (defBody (top 29)) n_slope_of_poly :=
  (db_one (d1_ret (de_call h_trimmed (by decide) (fun _ _ => Reps.nil) (da_cons (de_var 0 rfl (.inl rfl)) (da_cons (de_fz (df_cutL (de_fz (df_lc [("place", 2), ("number", 3)] (di_enu m_enumerate (de_var 1 rfl (.inl rfl))) (blkOk_by (by first | decide +kernel | (dsimp only; decide +kernel))) (dg_tup (dgs_name 2 rfl (.inl rfl) (.inl rfl) (dgs_name 3 rfl (.inl rfl) (.inl rfl) dgs_nil))) dts_nil (de_mul (de_var 2 rfl (.inl rfl)) (de_var 3 rfl (.inl rfl))))) (do_at de_int) do_no)) da_nil)))))
theorem b_require_operand (M : Mo) (h_require_same_prime : Has M "require_same_prime" 1 P_require_same_prime [] (spD M.G 2 f_require_same_prime)) (c_Function : ∃ C, M.mg "Function" = some (.ref C)) (hi_ : HasI M clsL) (m_isinstance : M.mg "isinstance" = none) (m_TypeError : M.mg "TypeError" = none) (W : WX) : DB M 1 W N_require_operand ⟨S_require_operand, S_require_operand, none, false, none⟩ (defBody (top 48)) n_require_operand :=
  (db_cons (d1_if (dt_not (dt_val (de_blt (bl_isiO hi_) m_isinstance (da_cons (de_var 1 rfl (.inl rfl)) (da_cons (de_cls c_Function) da_nil))))) (db_one (d1_raiseB exb_TypeError m_TypeError (by decide +kernel))) db_nil) (db_one (d1_expr (de_call h_require_same_prime (by decide) (fun _ _ => Reps.nil) (da_cons (de_var 0 rfl (.inl rfl)) (da_cons (de_var 1 rfl (.inl rfl)) da_nil))))))
theorem b_each_made (M : Mo) (h_require_operator : Has M "require_operator" 1 P_require_operator [] (spD M.G 1 f_require_operator)) (h_require_same_prime : Has M "require_same_prime" 1 P_require_same_prime [] (spD M.G 2 f_require_same_prime)) (m_tuple : M.mg "tuple" = none) (hi_ : HasI M clsL) (m_isinstance : M.mg "isinstance" = none) (c_Function : ∃ C, M.mg "Function" = some (.ref C)) (m_all : M.mg "all" = none) (xr_InvalidFunction : XOwn M "InvalidFunction") (W : WX) : DB M 1 W N_each_made ⟨S_each_made, S_each_made, none, false, none⟩ (defBody (top 70)) n_each_made :=
  (db_cons (d1_expr (de_call h_require_operator (by decide) (fun _ _ => Reps.nil) (da_cons (de_var 0 rfl (.inl rfl)) da_nil))) (db_cons (d1_if (dt_w (dw_or (dt_not (dt_val (de_blt (bl_isiO hi_) m_isinstance (da_cons (de_var 1 rfl (.inl rfl)) (da_cons (de_ty m_tuple (by decide +kernel)) da_nil))))) (dw_or1 (dt_not (dt_val (de_blt bl_all m_all (da_cons (de_fz (df_lc [("function", 2)] (di_seq (de_var 1 rfl (.inl rfl))) (blkOk_by (by first | decide +kernel | (dsimp only; decide +kernel))) (dg_name 2 rfl (.inl rfl) (.inl rfl)) dts_nil (de_blt (bl_isiO hi_) m_isinstance (da_cons (de_var 2 rfl (.inl rfl)) (da_cons (de_cls c_Function) da_nil))))) da_nil))))))) (db_one (d1_raise xr_InvalidFunction)) db_nil) (db_cons (d1_for (vs := [2]) (di_seq (de_var 1 rfl (.inl rfl))) (dg_name 2 rfl (.inl rfl) (.inl rfl)) (db_one (d1_expr (de_call h_require_same_prime (by decide) (fun _ _ => Reps.nil) (da_cons (de_var 0 rfl (.inl rfl)) (da_cons (de_var 2 rfl (.inl rfl)) da_nil)))))) (db_one (d1_for (vs := [2]) (di_seq (de_var 1 rfl (.inl rfl))) (dg_name 2 rfl (.inl rfl) (.inl rfl)) db_never)))))
theorem b__law_one_of (M : Mo) (h__law_grab : Has M "_law_grab" 1 P__law_grab [] (spD M.G 2 f__law_grab)) (m_len : M.mg "len" = none) (W : WX) : DB M 1 W N__law_one_of ⟨S__law_one_of, S__law_one_of, none, false, none⟩ (defBody (top 74)) n__law_one_of :=
  (db_one (d1_ret (de_ix (de_var 1 rfl (.inl rfl)) (de_callB h__law_grab (by decide) (fun _ _ => Reps.nil) (da_cons (de_var 0 rfl (.inl rfl)) (da_cons (de_blt bl_len m_len (da_cons (de_var 1 rfl (.inl rfl)) da_nil)) da_nil))))))
theorem b_require_within (M : Mo) (h_is_within : Has M "is_within" 2 P_is_within [] (spD M.G 3 f_is_within)) (xk_InvalidNumber : XKeep M "InvalidNumber" "given") (W : WX) : DB M 2 W N_require_within ⟨S_require_within, S_require_within, none, false, none⟩ (defBody (top 15)) n_require_within :=
  (db_one (d1_if (dt_not (dt_val (de_call h_is_within (by decide) (fun _ _ => Reps.nil) (da_cons (de_var 0 rfl (.inl rfl)) (da_cons (de_var 1 rfl (.inl rfl)) (da_cons (de_var 2 rfl (.inl rfl)) da_nil)))))) (db_one (d1_raiseV xk_InvalidNumber (by decide) (de_var 0 rfl (.inl rfl)))) db_nil))
theorem b_is_poly_any (M : Mo) (h_is_within : Has M "is_within" 2 P_is_within [] (spD M.G 3 f_is_within)) (m_tuple : M.mg "tuple" = none) (hi_ : HasI M clsL) (m_isinstance : M.mg "isinstance" = none) (m_all : M.mg "all" = none) (W : WX) : DB M 2 W N_is_poly_any ⟨S_is_poly_any, S_is_poly_any, none, false, none⟩ (defBody (top 18)) n_is_poly_any :=
  (db_cons (d1_if (dt_w (dw_or (dt_not (dt_val (de_blt (bl_isiO hi_) m_isinstance (da_cons (de_var 1 rfl (.inl rfl)) (da_cons (de_ty m_tuple (by decide +kernel)) da_nil))))) (dw_or1 (dt_not (dt_val (de_blt bl_all m_all (da_cons (de_fz (df_lc [("number", 2)] (di_seq (de_var 1 rfl (.inl rfl))) (blkOk_by (by first | decide +kernel | (dsimp only; decide +kernel))) (dg_name 2 rfl (.inl rfl) (.inl rfl)) dts_nil (de_call h_is_within (by decide) (fun _ _ => Reps.nil) (da_cons (de_var 2 rfl (.inl rfl)) (da_cons de_int (da_cons (de_sub (de_var 0 rfl (.inr (.inl rfl))) de_int) da_nil)))))) da_nil))))))) (db_one (d1_ret de_bl)) db_nil) (db_one (d1_ret (de_or (de_cmp cm_eq (de_var 1 rfl (.inl rfl)) (de_tup da_nil)) (de_one (de_cmp cm_ne (de_ix (de_var 1 rfl (.inl rfl)) (de_neg de_int)) de_int))))))
theorem b_monic_in (M : Mo) (h_undone_number : Has M "undone_number" 1 P_undone_number [] (spD M.G 2 f_undone_number)) (h_scaled_poly : Has M "scaled_poly" 2 P_scaled_poly [] (spD M.G 3 f_scaled_poly)) (W : WX) : DB M 2 W N_monic_in ⟨S_monic_in, S_monic_in, none, false, none⟩ (defBody (top 26)) n_monic_in :=
  (db_one (d1_ret (de_if (dt_cmp cm_ne (de_var 1 rfl (.inl rfl)) (de_tup da_nil)) (de_call h_scaled_poly (by decide) (fun _ _ => Reps.nil) (da_cons (de_var 0 rfl (.inl rfl)) (da_cons (de_var 1 rfl (.inl rfl)) (da_cons (de_call h_undone_number (by decide) (fun _ _ => Reps.nil) (da_cons (de_var 0 rfl (.inl rfl)) (da_cons (de_ix (de_var 1 rfl (.inl rfl)) (de_neg de_int)) da_nil))) da_nil)))) (de_tup da_nil))))
theorem b_Operator___init__ (M : Mo) (h_require_prime : Has M "require_prime" 2 P_require_prime [] (spD M.G 1 f_require_prime)) (h_entries_told : Has M "entries_told" 1 P_entries_told [] (spD M.G 2 f_entries_told)) (W : WX) : DB M 2 W N_Operator___init__ ⟨S_Operator___init__, S_Operator___init__, none, false, none⟩ (defBody (mem 66 1)) n_Operator___init__ :=
  (db_cons (d1_expr (de_call h_require_prime (by decide) (fun _ _ => Reps.nil) (da_cons (de_var 1 rfl (.inl rfl)) da_nil))) (db_cons (d1_att (de_var 1 rfl (.inl rfl)) (de_var 0 rfl (.inl rfl))) (db_one (d1_att (de_call h_entries_told (by decide) (fun _ _ => Reps.nil) (da_cons (de_var 1 rfl (.inl rfl)) (da_cons (de_var 2 rfl (.inl rfl)) da_nil))) (de_var 0 rfl (.inl rfl))))))
theorem b_Operator___eq__ (M : Mo) (c_Operator : ∃ C, M.mg "Operator" = some (.ref C)) (hi_ : HasI M clsL) (m_isinstance : M.mg "isinstance" = none) (tE___eq___only_Function : ∀ c ff, (c, ff) ∈ ([("Function", f_Function___eq__)] : List (Str × FF)) → HasE M c 1 ff) (W : WX) : DB M 2 W N_Operator___eq__ ⟨S_Operator___eq__, S_Operator___eq__, none, false, none⟩ (defBody (mem 66 18)) n_Operator___eq__ :=
  (db_cons (d1_if (dt_not (dt_val (de_blt (bl_isiO hi_) m_isinstance (da_cons (de_var 1 rfl (.inl rfl)) (da_cons (de_cls c_Operator) da_nil))))) (db_one (d1_ret de_bl)) db_nil) (db_one (d1_ret (de_and (de_eqO tE___eq___only_Function (by decide) (de_at (de_var 0 rfl (.inl rfl))) (de_at (de_var 1 rfl (.inl rfl)))) (de_one (de_eqX tE___eq___only_Function (by decide) (de_at (de_var 0 rfl (.inl rfl))) (de_at (de_var 1 rfl (.inl rfl)))))))))
theorem b_require_poly (M : Mo) (h_is_poly_any : Has M "is_poly_any" 3 P_is_poly_any [] (spD M.G 2 f_is_poly_any)) (m_len : M.mg "len" = none) (g_MAX_POWER : Glb M "MAX_POWER" c_MAX_POWER) (xr_InvalidPoly : XOwn M "InvalidPoly") (W : WX) : DB M 3 W N_require_poly ⟨S_require_poly, S_require_poly, none, false, none⟩ (defBody (top 19)) n_require_poly :=
  (db_one (d1_if (dt_w (dw_or (dt_not (dt_val (de_call h_is_poly_any (by decide) (fun _ _ => Reps.nil) (da_cons (de_var 0 rfl (.inl rfl)) (da_cons (de_var 1 rfl (.inl rfl)) da_nil))))) (dw_or1 (dt_cmp cm_gt (de_blt bl_len m_len (da_cons (de_var 1 rfl (.inl rfl)) da_nil)) (de_add (de_glob g_MAX_POWER) de_int))))) (db_one (d1_raise xr_InvalidPoly)) db_nil))
theorem b_common_in (M : Mo) (h_divided_in : Has M "divided_in" 2 P_divided_in [] (spD M.G 3 f_divided_in)) (h_monic_in : Has M "monic_in" 3 P_monic_in [] (spD M.G 2 f_monic_in)) (W : WX) : DB M 3 W N_common_in ⟨S_common_in, S_common_in, none, false, none⟩ (defBody (top 27)) n_common_in :=
  (db_cons (d1_while 100000 (dt_cmp cm_ne (de_var 2 rfl (.inl rfl)) (de_tup da_nil)) (db_one (d1_par2 1 2 rfl rfl (by decide) rfl rfl (da_cons (de_var 2 rfl (.inl rfl)) (da_cons (de_ix (de_call h_divided_in (by decide) (fun _ _ => Reps.nil) (da_cons (de_var 0 rfl (.inl rfl)) (da_cons (de_var 1 rfl (.inl rfl)) (da_cons (de_var 2 rfl (.inl rfl)) da_nil)))) de_int) da_nil))))) (db_one (d1_ret (de_call h_monic_in (by decide) (fun _ _ => Reps.nil) (da_cons (de_var 0 rfl (.inl rfl)) (da_cons (de_var 1 rfl (.inl rfl)) da_nil))))))
theorem b_lowest_pair (M : Mo) (h_common_in : Has M "common_in" 4 P_common_in [] (spD M.G 3 f_common_in)) (h_divided_in : Has M "divided_in" 2 P_divided_in [] (spD M.G 3 f_divided_in)) (h_undone_number : Has M "undone_number" 1 P_undone_number [] (spD M.G 2 f_undone_number)) (h_scaled_poly : Has M "scaled_poly" 2 P_scaled_poly [] (spD M.G 3 f_scaled_poly)) (m_len : M.mg "len" = none) (W : WX) : DB M 4 W N_lowest_pair ⟨S_lowest_pair, S_lowest_pair, none, false, none⟩ (defBody (top 37)) n_lowest_pair :=
  (db_cons (d1_if (dt_cmp cm_eqE (de_var 1 rfl (.inl rfl)) (de_tup da_nil)) (db_one (d1_ret (de_tup (da_cons (de_tup da_nil) (da_cons (de_tup (da_cons de_int da_nil)) da_nil))))) db_nil) (db_cons (d1_set 3 rfl (.inl rfl) (.inl rfl) (de_call h_common_in (by decide) (fun _ _ => Reps.nil) (da_cons (de_var 0 rfl (.inl rfl)) (da_cons (de_var 1 rfl (.inl rfl)) (da_cons (de_var 2 rfl (.inl rfl)) da_nil))))) (db_cons (d1_if (dt_cmp cm_gt (de_blt bl_len m_len (da_cons (de_var 3 rfl (.inl rfl)) da_nil)) de_int) (db_one (d1_par2 1 2 rfl rfl (by decide) rfl rfl (da_cons (de_ix (de_call h_divided_in (by decide) (fun _ _ => Reps.nil) (da_cons (de_var 0 rfl (.inl rfl)) (da_cons (de_var 1 rfl (.inl rfl)) (da_cons (de_var 3 rfl (.inl rfl)) da_nil)))) de_int) (da_cons (de_ix (de_call h_divided_in (by decide) (fun _ _ => Reps.nil) (da_cons (de_var 0 rfl (.inl rfl)) (da_cons (de_var 2 rfl (.inl rfl)) (da_cons (de_var 3 rfl (.inl rfl)) da_nil)))) de_int) da_nil)))) db_nil) (db_cons (d1_set 4 rfl (.inl rfl) (.inl rfl) (de_call h_undone_number (by decide) (fun _ _ => Reps.nil) (da_cons (de_var 0 rfl (.inl rfl)) (da_cons (de_ix (de_var 2 rfl (.inl rfl)) (de_neg de_int)) da_nil)))) (db_one (d1_ret (de_tup (da_cons (de_call h_scaled_poly (by decide) (fun _ _ => Reps.nil) (da_cons (de_var 0 rfl (.inl rfl)) (da_cons (de_var 1 rfl (.inl rfl)) (da_cons (de_var 4 rfl (.inl rfl)) da_nil)))) (da_cons (de_call h_scaled_poly (by decide) (fun _ _ => Reps.nil) (da_cons (de_var 0 rfl (.inl rfl)) (da_cons (de_var 2 rfl (.inl rfl)) (da_cons (de_var 4 rfl (.inl rfl)) da_nil)))) da_nil)))))))))
theorem b_made_operator (M : Mo) (h_trimmed_entries : Has M "trimmed_entries" 1 P_trimmed_entries [] (spD M.G 1 f_trimmed_entries)) (hc_KeptEntries : HasC M "KeptEntries" ["own_kept"] 1 2 f_KeptEntries___init__) (hc_Operator : HasC M "Operator" ["own_entries", "own_prime"] 3 3 f_Operator___init__) (W : WX) : DB M 4 W N_made_operator ⟨S_made_operator, S_made_operator, none, false, none⟩ (defBody (top 54)) n_made_operator :=
  (db_one (d1_ret (de_new hc_Operator (by decide) (da_cons (de_var 0 rfl (.inl rfl)) (da_cons (de_new hc_KeptEntries (by decide) (da_cons (de_call h_trimmed_entries (by decide) (fun _ _ => Reps.nil) (da_cons (de_var 1 rfl (.inl rfl)) da_nil)) da_nil)) da_nil)))))
theorem b_Function___init__ (M : Mo) (h_require_prime : Has M "require_prime" 2 P_require_prime [] (spD M.G 1 f_require_prime)) (h_require_poly : Has M "require_poly" 4 P_require_poly [] (spD M.G 2 f_require_poly)) (h_lowest_pair : Has M "lowest_pair" 5 P_lowest_pair [] (spD M.G 3 f_lowest_pair)) (c_Lowest : ∃ C, M.mg "Lowest" = some (.ref C)) (hi_ : HasI M clsL) (m_isinstance : M.mg "isinstance" = none) (xr_InvalidOperation : XOwn M "InvalidOperation") (W : WX) : DB M 5 W N_Function___init__ ⟨S_Function___init__, S_Function___init__, none, false, none⟩ (defBody (mem 34 1)) n_Function___init__ :=
  (db_cons (d1_if (dt_val (de_blt (bl_isiO hi_) m_isinstance (da_cons (de_var 2 rfl (.inl rfl)) (da_cons (de_cls c_Lowest) da_nil)))) (db_one (d1_set 4 rfl (.inl rfl) (.inl rfl) (de_at (de_var 2 rfl (.inl rfl))))) (db_cons (d1_expr (de_call h_require_prime (by decide) (fun _ _ => Reps.nil) (da_cons (de_var 1 rfl (.inl rfl)) da_nil))) (db_cons (d1_expr (de_call h_require_poly (by decide) (fun _ _ => Reps.nil) (da_cons (de_var 1 rfl (.inl rfl)) (da_cons (de_var 2 rfl (.inl rfl)) da_nil)))) (db_cons (d1_expr (de_call h_require_poly (by decide) (fun _ _ => Reps.nil) (da_cons (de_var 1 rfl (.inl rfl)) (da_cons (de_var 3 rfl (.inl rfl)) da_nil)))) (db_cons (d1_if (dt_cmp cm_eqE (de_var 3 rfl (.inl rfl)) (de_tup da_nil)) (db_one (d1_raise xr_InvalidOperation)) db_nil) (db_one (d1_set 4 rfl (.inl rfl) (.inl rfl) (de_call h_lowest_pair (by decide) (fun _ _ => Reps.nil) (da_cons (de_var 1 rfl (.inl rfl)) (da_cons (de_var 2 rfl (.inl rfl)) (da_cons (de_var 3 rfl (.inl rfl)) da_nil))))))))))) (db_cons (d1_att (de_var 1 rfl (.inl rfl)) (de_var 0 rfl (.inl rfl))) (db_cons (d1_att (de_ix (de_var 4 rfl (.inl rfl)) de_int) (de_var 0 rfl (.inl rfl))) (db_one (d1_att (de_ix (de_var 4 rfl (.inl rfl)) de_int) (de_var 0 rfl (.inl rfl)))))))
theorem b_Operator_times (M : Mo) (h_require_function : Has M "require_function" 1 P_require_function [] (spD M.G 1 f_require_function)) (h_made_operator : Has M "made_operator" 5 P_made_operator [] (spD M.G 2 f_made_operator)) (W : WX) : DB M 5 W N_Operator_times ⟨S_Operator_times, S_Operator_times, none, false, none⟩ (defBody (mem 66 4)) n_Operator_times :=
  (db_cons (d1_expr (de_call h_require_function (by decide) (fun _ _ => Reps.nil) (da_cons (de_var 1 rfl (.inl rfl)) da_nil))) (db_one (d1_ret (de_call h_made_operator (by decide) (fun _ _ => Reps.nil) (da_cons (de_at (de_var 1 rfl (.inl rfl))) (da_cons (de_tup (da_cons (de_var 1 rfl (.inl rfl)) da_nil)) da_nil))))))
theorem b_Function_number (M : Mo) (h_require_prime : Has M "require_prime" 2 P_require_prime [] (spD M.G 1 f_require_prime)) (h_is_integer : Has M "is_integer" 2 P_is_integer [] (spD M.G 1 f_is_integer)) (h_trimmed : Has M "trimmed" 1 P_trimmed [] (spD M.G 2 f_trimmed)) (xk_InvalidNumber : XKeep M "InvalidNumber" "given") (hc_Lowest : HasC M "Lowest" ["own_pair"] 1 2 f_Lowest___init__) (hc_Function : HasC M "Function" ["own_bottom", "own_prime", "own_top"] 6 4 f_Function___init__) (W : WX) : DB M 7 W N_Function_number ⟨S_Function_number, S_Function_number, none, false, none⟩ (defBody (mem 34 2)) n_Function_number :=
  (db_cons (d1_expr (de_call h_require_prime (by decide) (fun _ _ => Reps.nil) (da_cons (de_var 1 rfl (.inl rfl)) da_nil))) (db_cons (d1_if (dt_not (dt_val (de_call h_is_integer (by decide) (fun _ _ => Reps.nil) (da_cons (de_var 2 rfl (.inl rfl)) da_nil)))) (db_one (d1_raiseV xk_InvalidNumber (by decide) (de_var 2 rfl (.inl rfl)))) db_nil) (db_one (d1_ret (de_newV 0 rfl (.inl rfl) hc_Function (by decide) (da_cons (de_var 1 rfl (.inl rfl)) (da_cons (de_new hc_Lowest (by decide) (da_cons (de_tup (da_cons (de_call h_trimmed (by decide) (fun _ _ => Reps.nil) (da_cons (de_var 1 rfl (.inl rfl)) (da_cons (de_fz (df_lst (da_cons (de_var 2 rfl (.inl rfl)) da_nil))) da_nil))) (da_cons (de_tup (da_cons de_int da_nil)) da_nil))) da_nil)) (da_cons (de_tup da_nil) da_nil))))))))
theorem b_Function___neg__ (M : Mo) (h_scaled_poly : Has M "scaled_poly" 2 P_scaled_poly [] (spD M.G 3 f_scaled_poly)) (hc_Lowest : HasC M "Lowest" ["own_pair"] 1 2 f_Lowest___init__) (hc_Function : HasC M "Function" ["own_bottom", "own_prime", "own_top"] 6 4 f_Function___init__) (W : WX) : DB M 7 W N_Function___neg__ ⟨S_Function___neg__, S_Function___neg__, none, false, none⟩ (defBody (mem 34 18)) n_Function___neg__ :=
  (db_cons (d1_set 1 rfl (.inl rfl) (.inl rfl) (de_at (de_var 0 rfl (.inl rfl)))) (db_one (d1_ret (de_new hc_Function (by decide) (da_cons (de_var 1 rfl (.inl rfl)) (da_cons (de_new hc_Lowest (by decide) (da_cons (de_tup (da_cons (de_call h_scaled_poly (by decide) (fun _ _ => Reps.nil) (da_cons (de_var 1 rfl (.inl rfl)) (da_cons (de_at (de_var 0 rfl (.inl rfl))) (da_cons (de_neg de_int) da_nil)))) (da_cons (de_at (de_var 0 rfl (.inl rfl))) da_nil))) da_nil)) (da_cons (de_tup da_nil) da_nil)))))))
theorem b_made_function (M : Mo) (h_trimmed : Has M "trimmed" 1 P_trimmed [] (spD M.G 2 f_trimmed)) (h_lowest_pair : Has M "lowest_pair" 5 P_lowest_pair [] (spD M.G 3 f_lowest_pair)) (hc_Lowest : HasC M "Lowest" ["own_pair"] 1 2 f_Lowest___init__) (hc_Function : HasC M "Function" ["own_bottom", "own_prime", "own_top"] 6 4 f_Function___init__) (W : WX) : DB M 7 W N_made_function ⟨S_made_function, S_made_function, none, false, none⟩ (defBody (top 38)) n_made_function :=
  (db_one (d1_ret (de_new hc_Function (by decide) (da_cons (de_var 0 rfl (.inl rfl)) (da_cons (de_new hc_Lowest (by decide) (da_cons (de_call h_lowest_pair (by decide) (fun _ _ => Reps.nil) (da_cons (de_var 0 rfl (.inl rfl)) (da_cons (de_call h_trimmed (by decide) (fun _ _ => Reps.nil) (da_cons (de_var 0 rfl (.inl rfl)) (da_cons (de_var 1 rfl (.inl rfl)) da_nil))) (da_cons (de_call h_trimmed (by decide) (fun _ _ => Reps.nil) (da_cons (de_var 0 rfl (.inl rfl)) (da_cons (de_var 2 rfl (.inl rfl)) da_nil))) da_nil)))) da_nil)) (da_cons (de_tup da_nil) da_nil))))))
theorem b_zero_of (M : Mo) (hc_Lowest : HasC M "Lowest" ["own_pair"] 1 2 f_Lowest___init__) (hc_Function : HasC M "Function" ["own_bottom", "own_prime", "own_top"] 6 4 f_Function___init__) (W : WX) : DB M 7 W N_zero_of ⟨S_zero_of, S_zero_of, none, false, none⟩ (defBody (top 39)) n_zero_of :=
  (db_one (d1_ret (de_new hc_Function (by decide) (da_cons (de_var 0 rfl (.inl rfl)) (da_cons (de_new hc_Lowest (by decide) (da_cons (de_tup (da_cons (de_tup da_nil) (da_cons (de_tup (da_cons de_int da_nil)) da_nil))) da_nil)) (da_cons (de_tup da_nil) da_nil))))))
theorem b_unit_of (M : Mo) (hc_Lowest : HasC M "Lowest" ["own_pair"] 1 2 f_Lowest___init__) (hc_Function : HasC M "Function" ["own_bottom", "own_prime", "own_top"] 6 4 f_Function___init__) (W : WX) : DB M 7 W N_unit_of ⟨S_unit_of, S_unit_of, none, false, none⟩ (defBody (top 40)) n_unit_of :=
  (db_one (d1_ret (de_new hc_Function (by decide) (da_cons (de_var 0 rfl (.inl rfl)) (da_cons (de_new hc_Lowest (by decide) (da_cons (de_tup (da_cons (de_tup (da_cons de_int da_nil)) (da_cons (de_tup (da_cons de_int da_nil)) da_nil))) da_nil)) (da_cons (de_tup da_nil) da_nil))))))
theorem b_sum_of (M : Mo) (h_plus_in : Has M "plus_in" 2 P_plus_in [] (spD M.G 4 f_plus_in)) (h_made_function : Has M "made_function" 8 P_made_function [] (spD M.G 3 f_made_function)) (h_times_in : Has M "times_in" 2 P_times_in [] (spD M.G 3 f_times_in)) (W : WX) : DB M 8 W N_sum_of ⟨S_sum_of, S_sum_of, none, false, none⟩ (defBody (top 41)) n_sum_of :=
  (db_cons (d1_par3 3 4 5 rfl rfl rfl (by decide) (by decide) (by decide) rfl rfl rfl (da_cons (de_at (de_var 0 rfl (.inl rfl))) (da_cons (de_at (de_var 0 rfl (.inl rfl))) (da_cons (de_at (de_var 1 rfl (.inl rfl))) da_nil)))) (db_cons (d1_if (dt_cmp cm_eq (de_var 4 rfl (.inl rfl)) (de_var 5 rfl (.inl rfl))) (db_one (d1_ret (de_call h_made_function (by decide) (fun _ _ => Reps.nil) (da_cons (de_var 3 rfl (.inl rfl)) (da_cons (de_call h_plus_in (by decide) (fun _ _ => Reps.nil) (da_cons (de_var 3 rfl (.inl rfl)) (da_cons (de_at (de_var 0 rfl (.inl rfl))) (da_cons (de_at (de_var 1 rfl (.inl rfl))) (da_cons (de_var 2 rfl (.inl rfl)) da_nil))))) (da_cons (de_var 4 rfl (.inl rfl)) da_nil)))))) db_nil) (db_cons (d1_par2 6 7 rfl rfl (by decide) rfl rfl (da_cons (de_call h_times_in (by decide) (fun _ _ => Reps.nil) (da_cons (de_var 3 rfl (.inl rfl)) (da_cons (de_at (de_var 0 rfl (.inl rfl))) (da_cons (de_var 5 rfl (.inl rfl)) da_nil)))) (da_cons (de_call h_times_in (by decide) (fun _ _ => Reps.nil) (da_cons (de_var 3 rfl (.inl rfl)) (da_cons (de_at (de_var 1 rfl (.inl rfl))) (da_cons (de_var 4 rfl (.inl rfl)) da_nil)))) da_nil))) (db_one (d1_ret (de_call h_made_function (by decide) (fun _ _ => Reps.nil) (da_cons (de_var 3 rfl (.inl rfl)) (da_cons (de_call h_plus_in (by decide) (fun _ _ => Reps.nil) (da_cons (de_var 3 rfl (.inl rfl)) (da_cons (de_var 6 rfl (.inl rfl)) (da_cons (de_var 7 rfl (.inl rfl)) (da_cons (de_var 2 rfl (.inl rfl)) da_nil))))) (da_cons (de_call h_times_in (by decide) (fun _ _ => Reps.nil) (da_cons (de_var 3 rfl (.inl rfl)) (da_cons (de_var 4 rfl (.inl rfl)) (da_cons (de_var 5 rfl (.inl rfl)) da_nil)))) da_nil)))))))))
theorem b_product_of (M : Mo) (h_times_in : Has M "times_in" 2 P_times_in [] (spD M.G 3 f_times_in)) (h_made_function : Has M "made_function" 8 P_made_function [] (spD M.G 3 f_made_function)) (W : WX) : DB M 8 W N_product_of ⟨S_product_of, S_product_of, none, false, none⟩ (defBody (top 42)) n_product_of :=
  (db_cons (d1_set 2 rfl (.inl rfl) (.inl rfl) (de_at (de_var 0 rfl (.inl rfl)))) (db_cons (d1_set 3 rfl (.inl rfl) (.inl rfl) (de_call h_times_in (by decide) (fun _ _ => Reps.nil) (da_cons (de_var 2 rfl (.inl rfl)) (da_cons (de_at (de_var 0 rfl (.inl rfl))) (da_cons (de_at (de_var 1 rfl (.inl rfl))) da_nil))))) (db_one (d1_ret (de_call h_made_function (by decide) (fun _ _ => Reps.nil) (da_cons (de_var 2 rfl (.inl rfl)) (da_cons (de_var 3 rfl (.inl rfl)) (da_cons (de_call h_times_in (by decide) (fun _ _ => Reps.nil) (da_cons (de_var 2 rfl (.inl rfl)) (da_cons (de_at (de_var 0 rfl (.inl rfl))) (da_cons (de_at (de_var 1 rfl (.inl rfl))) da_nil)))) da_nil))))))))
theorem b_undone_of (M : Mo) (h_made_function : Has M "made_function" 8 P_made_function [] (spD M.G 3 f_made_function)) (W : WX) : DB M 8 W N_undone_of ⟨S_undone_of, S_undone_of, none, false, none⟩ (defBody (top 43)) n_undone_of :=
  (db_one (d1_ret (de_call h_made_function (by decide) (fun _ _ => Reps.nil) (da_cons (de_at (de_var 0 rfl (.inl rfl))) (da_cons (de_at (de_var 0 rfl (.inl rfl))) (da_cons (de_at (de_var 0 rfl (.inl rfl))) da_nil))))))
theorem b_slope_of (M : Mo) (h_slope_of_poly : Has M "slope_of_poly" 2 P_slope_of_poly [] (spD M.G 2 f_slope_of_poly)) (h_times_in : Has M "times_in" 2 P_times_in [] (spD M.G 3 f_times_in)) (h_plus_in : Has M "plus_in" 2 P_plus_in [] (spD M.G 4 f_plus_in)) (h_made_function : Has M "made_function" 8 P_made_function [] (spD M.G 3 f_made_function)) (W : WX) : DB M 8 W N_slope_of ⟨S_slope_of, S_slope_of, none, false, none⟩ (defBody (top 45)) n_slope_of :=
  (db_cons (d1_par3 3 4 5 rfl rfl rfl (by decide) (by decide) (by decide) rfl rfl rfl (da_cons (de_at (de_var 0 rfl (.inl rfl))) (da_cons (de_at (de_var 0 rfl (.inl rfl))) (da_cons (de_at (de_var 0 rfl (.inl rfl))) da_nil)))) (db_cons (d1_set 1 rfl (.inl rfl) (.inl rfl) (de_call h_times_in (by decide) (fun _ _ => Reps.nil) (da_cons (de_var 3 rfl (.inl rfl)) (da_cons (de_call h_slope_of_poly (by decide) (fun _ _ => Reps.nil) (da_cons (de_var 3 rfl (.inl rfl)) (da_cons (de_var 4 rfl (.inl rfl)) da_nil))) (da_cons (de_var 5 rfl (.inl rfl)) da_nil))))) (db_cons (d1_set 2 rfl (.inl rfl) (.inl rfl) (de_call h_times_in (by decide) (fun _ _ => Reps.nil) (da_cons (de_var 3 rfl (.inl rfl)) (da_cons (de_var 4 rfl (.inl rfl)) (da_cons (de_call h_slope_of_poly (by decide) (fun _ _ => Reps.nil) (da_cons (de_var 3 rfl (.inl rfl)) (da_cons (de_var 5 rfl (.inl rfl)) da_nil))) da_nil))))) (db_one (d1_ret (de_call h_made_function (by decide) (fun _ _ => Reps.nil) (da_cons (de_var 3 rfl (.inl rfl)) (da_cons (de_call h_plus_in (by decide) (fun _ _ => Reps.nil) (da_cons (de_var 3 rfl (.inl rfl)) (da_cons (de_var 1 rfl (.inl rfl)) (da_cons (de_var 2 rfl (.inl rfl)) (da_cons (de_neg de_int) da_nil))))) (da_cons (de_call h_times_in (by decide) (fun _ _ => Reps.nil) (da_cons (de_var 3 rfl (.inl rfl)) (da_cons (de_var 5 rfl (.inl rfl)) (da_cons (de_var 5 rfl (.inl rfl)) da_nil)))) da_nil)))))))))
theorem b_Operator_slopes (M : Mo) (h_require_prime : Has M "require_prime" 2 P_require_prime [] (spD M.G 1 f_require_prime)) (h_require_within : Has M "require_within" 3 P_require_within [] (spD M.G 3 f_require_within)) (h_zero_of : Has M "zero_of" 8 P_zero_of [] (spD M.G 1 f_zero_of)) (h_unit_of : Has M "unit_of" 8 P_unit_of [] (spD M.G 1 f_unit_of)) (g_MAX_RAISED_operators : Glb M "MAX_RAISED_operators" c_MAX_RAISED_operators) (hc_Operator : HasC M "Operator" ["own_entries", "own_prime"] 3 3 f_Operator___init__) (W : WX) : DB M 8 W N_Operator_slopes ⟨S_Operator_slopes, S_Operator_slopes, none, false, none⟩ (defBody (mem 66 2)) n_Operator_slopes :=
  (db_cons (d1_expr (de_call h_require_prime (by decide) (fun _ _ => Reps.nil) (da_cons (de_var 1 rfl (.inl rfl)) da_nil))) (db_cons (d1_expr (de_call h_require_within (by decide) (fun _ _ => Reps.nil) (da_cons (de_var 2 rfl (.inl rfl)) (da_cons de_int (da_cons (de_glob g_MAX_RAISED_operators) da_nil))))) (db_one (d1_ret (de_newV 0 rfl (.inl rfl) hc_Operator (by decide) (da_cons (de_var 1 rfl (.inl rfl)) (da_cons (de_tup (da_star (de_fz (df_rep (de_fz (df_lst (da_cons (de_call h_zero_of (by decide) (fun _ _ => Reps.nil) (da_cons (de_var 1 rfl (.inl rfl)) da_nil)) da_nil))) (de_var 2 rfl (.inl rfl)))) (da_cons (de_call h_unit_of (by decide) (fun _ _ => Reps.nil) (da_cons (de_var 1 rfl (.inl rfl)) da_nil)) da_nil))) da_nil)))))))
theorem b_Operator_factor (M : Mo) (h_require_function : Has M "require_function" 1 P_require_function [] (spD M.G 1 f_require_function)) (h_unit_of : Has M "unit_of" 8 P_unit_of [] (spD M.G 1 f_unit_of)) (tU___neg___only_Function : ∀ c ff, (c, ff) ∈ ([("Function", f_Function___neg__)] : List (Str × FF)) → HasU M c "__neg__" 8 ff) (hc_Operator : HasC M "Operator" ["own_entries", "own_prime"] 3 3 f_Operator___init__) (W : WX) : DB M 8 W N_Operator_factor ⟨S_Operator_factor, S_Operator_factor, none, false, none⟩ (defBody (mem 66 3)) n_Operator_factor :=
  (db_cons (d1_expr (de_call h_require_function (by decide) (fun _ _ => Reps.nil) (da_cons (de_var 1 rfl (.inl rfl)) da_nil))) (db_one (d1_ret (de_newV 0 rfl (.inl rfl) hc_Operator (by decide) (da_cons (de_at (de_var 1 rfl (.inl rfl))) (da_cons (de_tup (da_cons (de_negO tU___neg___only_Function (by decide) (de_var 1 rfl (.inl rfl))) (da_cons (de_call h_unit_of (by decide) (fun _ _ => Reps.nil) (da_cons (de_at (de_var 1 rfl (.inl rfl))) da_nil)) da_nil))) da_nil))))))
theorem b_Operator_entry (M : Mo) (h_require_within : Has M "require_within" 3 P_require_within [] (spD M.G 3 f_require_within)) (h_zero_of : Has M "zero_of" 8 P_zero_of [] (spD M.G 1 f_zero_of)) (g_MOST_INDEX : Glb M "MOST_INDEX" c_MOST_INDEX) (m_len : M.mg "len" = none) (W : WX) : DB M 8 W N_Operator_entry ⟨S_Operator_entry, S_Operator_entry, none, false, none⟩ (defBody (mem 66 9)) n_Operator_entry :=
  (db_cons (d1_expr (de_call h_require_within (by decide) (fun _ _ => Reps.nil) (da_cons (de_var 1 rfl (.inl rfl)) (da_cons de_int (da_cons (de_glob g_MOST_INDEX) da_nil))))) (db_one (d1_ret (de_if (dt_cmp cm_lt (de_var 1 rfl (.inl rfl)) (de_blt bl_len m_len (da_cons (de_at (de_var 0 rfl (.inl rfl))) da_nil))) (de_ix (de_at (de_var 0 rfl (.inl rfl))) (de_var 1 rfl (.inl rfl))) (de_call h_zero_of (by decide) (fun _ _ => Reps.nil) (da_cons (de_at (de_var 0 rfl (.inl rfl))) da_nil))))))
theorem b_Function___add__ (M : Mo) (h_require_operand : Has M "require_operand" 2 P_require_operand [] (spD M.G 2 f_require_operand)) (h_sum_of : Has M "sum_of" 9 P_sum_of [] (spD M.G 3 f_sum_of)) (W : WX) : DB M 9 W N_Function___add__ ⟨S_Function___add__, S_Function___add__, none, false, none⟩ (defBody (mem 34 14)) n_Function___add__ :=
  (db_cons (d1_expr (de_call h_require_operand (by decide) (fun _ _ => Reps.nil) (da_cons (de_var 0 rfl (.inl rfl)) (da_cons (de_var 1 rfl (.inl rfl)) da_nil)))) (db_one (d1_ret (de_call h_sum_of (by decide) (fun _ _ => Reps.nil) (da_cons (de_var 0 rfl (.inl rfl)) (da_cons (de_var 1 rfl (.inl rfl)) (da_cons de_int da_nil)))))))
theorem b_Function___sub__ (M : Mo) (h_require_operand : Has M "require_operand" 2 P_require_operand [] (spD M.G 2 f_require_operand)) (h_sum_of : Has M "sum_of" 9 P_sum_of [] (spD M.G 3 f_sum_of)) (W : WX) : DB M 9 W N_Function___sub__ ⟨S_Function___sub__, S_Function___sub__, none, false, none⟩ (defBody (mem 34 15)) n_Function___sub__ :=
  (db_cons (d1_expr (de_call h_require_operand (by decide) (fun _ _ => Reps.nil) (da_cons (de_var 0 rfl (.inl rfl)) (da_cons (de_var 1 rfl (.inl rfl)) da_nil)))) (db_one (d1_ret (de_call h_sum_of (by decide) (fun _ _ => Reps.nil) (da_cons (de_var 0 rfl (.inl rfl)) (da_cons (de_var 1 rfl (.inl rfl)) (da_cons (de_neg de_int) da_nil)))))))
theorem b_Function___mul__ (M : Mo) (h_require_operand : Has M "require_operand" 2 P_require_operand [] (spD M.G 2 f_require_operand)) (h_product_of : Has M "product_of" 9 P_product_of [] (spD M.G 2 f_product_of)) (W : WX) : DB M 9 W N_Function___mul__ ⟨S_Function___mul__, S_Function___mul__, none, false, none⟩ (defBody (mem 34 16)) n_Function___mul__ :=
  (db_cons (d1_expr (de_call h_require_operand (by decide) (fun _ _ => Reps.nil) (da_cons (de_var 0 rfl (.inl rfl)) (da_cons (de_var 1 rfl (.inl rfl)) da_nil)))) (db_one (d1_ret (de_call h_product_of (by decide) (fun _ _ => Reps.nil) (da_cons (de_var 0 rfl (.inl rfl)) (da_cons (de_var 1 rfl (.inl rfl)) da_nil))))))
theorem b_Function___floordiv__ (M : Mo) (h_require_operand : Has M "require_operand" 2 P_require_operand [] (spD M.G 2 f_require_operand)) (h_undone_of : Has M "undone_of" 9 P_undone_of [] (spD M.G 1 f_undone_of)) (h_product_of : Has M "product_of" 9 P_product_of [] (spD M.G 2 f_product_of)) (xr_InvalidOperation : XOwn M "InvalidOperation") (W : WX) : DB M 9 W N_Function___floordiv__ ⟨S_Function___floordiv__, S_Function___floordiv__, none, false, none⟩ (defBody (mem 34 17)) n_Function___floordiv__ :=
  (db_cons (d1_expr (de_call h_require_operand (by decide) (fun _ _ => Reps.nil) (da_cons (de_var 0 rfl (.inl rfl)) (da_cons (de_var 1 rfl (.inl rfl)) da_nil)))) (db_cons (d1_if (dt_cmp cm_eqE (de_at (de_var 1 rfl (.inl rfl))) (de_tup da_nil)) (db_one (d1_raise xr_InvalidOperation)) db_nil) (db_one (d1_ret (de_call h_product_of (by decide) (fun _ _ => Reps.nil) (da_cons (de_var 0 rfl (.inl rfl)) (da_cons (de_call h_undone_of (by decide) (fun _ _ => Reps.nil) (da_cons (de_var 1 rfl (.inl rfl)) da_nil)) da_nil)))))))
theorem b_is_of_t (M : Mo) (h_slope_of : Has M "slope_of" 9 P_slope_of [] (spD M.G 1 f_slope_of)) (W : WX) : DB M 9 W N_is_of_t ⟨S_is_of_t, S_is_of_t, none, false, none⟩ (defBody (top 60)) n_is_of_t :=
  (db_one (d1_ret (de_cmp cm_eqE (de_at (de_call h_slope_of (by decide) (fun _ _ => Reps.nil) (da_cons (de_var 0 rfl (.inl rfl)) da_nil))) (de_tup da_nil))))
theorem b_sum_in (M : Mo) (h_zero_of : Has M "zero_of" 8 P_zero_of [] (spD M.G 1 f_zero_of)) (h_made_function : Has M "made_function" 8 P_made_function [] (spD M.G 3 f_made_function)) (h_made_operator : Has M "made_operator" 5 P_made_operator [] (spD M.G 2 f_made_operator)) (m_len : M.mg "len" = none) (m_max : M.mg "max" = none) (tB___sub___only_Function : ∀ c ff, (c, ff) ∈ ([("Function", f_Function___sub__)] : List (Str × FF)) → HasB M c "__sub__" 10 ff) (m_zip : M.mg "zip" = none) (tB___mul___only_Function : ∀ c ff, (c, ff) ∈ ([("Function", f_Function___mul__)] : List (Str × FF)) → HasB M c "__mul__" 10 ff) (tB___add___only_Function : ∀ c ff, (c, ff) ∈ ([("Function", f_Function___add__)] : List (Str × FF)) → HasB M c "__add__" 10 ff) (W : WX) : DB M 10 W N_sum_in ⟨S_sum_in, S_sum_in, none, false, none⟩ (defBody (top 55)) n_sum_in :=
  (db_cons (d1_par2 5 6 rfl rfl (by decide) rfl rfl (da_cons (de_at (de_var 0 rfl (.inl rfl))) (da_cons (de_blt bl_max2 m_max (da_cons (de_blt bl_len m_len (da_cons (de_at (de_var 0 rfl (.inl rfl))) da_nil)) (da_cons (de_blt bl_len m_len (da_cons (de_at (de_var 1 rfl (.inl rfl))) da_nil)) da_nil))) da_nil))) (db_cons (d1_asg (vs := [7, 8]) (de_tup (da_cons (de_call h_zero_of (by decide) (fun _ _ => Reps.nil) (da_cons (de_var 5 rfl (.inl rfl)) da_nil)) (da_cons (de_call h_made_function (by decide) (fun _ _ => Reps.nil) (da_cons (de_var 5 rfl (.inl rfl)) (da_cons (de_fz (df_lst (da_cons (de_var 2 rfl (.inl rfl)) da_nil))) (da_cons (de_tup (da_cons de_int da_nil)) da_nil)))) da_nil))) (dg_tup (dgs_name 7 rfl (.inl rfl) (.inl rfl) (dgs_name 8 rfl (.inr rfl) (.inr rfl) dgs_nil)))) (db_cons (d1_set 3 rfl (.inl rfl) (.inl rfl) (de_fz (df_lst (da_star (de_at (de_var 0 rfl (.inl rfl))) (da_star (de_fz (df_rep (de_fz (df_lst (da_cons (de_var 7 rfl (.inl rfl)) da_nil))) (de_subO tB___sub___only_Function (by decide) (de_var 6 rfl (.inl rfl)) (de_blt bl_len m_len (da_cons (de_at (de_var 0 rfl (.inl rfl))) da_nil))))) da_nil))))) (db_cons (d1_set 4 rfl (.inl rfl) (.inl rfl) (de_fz (df_lst (da_star (de_at (de_var 1 rfl (.inl rfl))) (da_star (de_fz (df_rep (de_fz (df_lst (da_cons (de_var 7 rfl (.inl rfl)) da_nil))) (de_subO tB___sub___only_Function (by decide) (de_var 6 rfl (.inl rfl)) (de_blt bl_len m_len (da_cons (de_at (de_var 1 rfl (.inl rfl))) da_nil))))) da_nil))))) (db_one (d1_ret (de_call h_made_operator (by decide) (fun _ _ => Reps.nil) (da_cons (de_var 5 rfl (.inl rfl)) (da_cons (de_fz (df_lc [("here", 9), ("there", 10)] (di_zip m_zip (da_cons (de_var 3 rfl (.inl rfl)) (da_cons (de_var 4 rfl (.inl rfl)) da_nil))) (blkOk_by (by first | decide +kernel | (dsimp only; decide +kernel))) (dg_tup (dgs_name 9 rfl (.inl rfl) (.inl rfl) (dgs_name 10 rfl (.inl rfl) (.inl rfl) dgs_nil))) dts_nil (de_addO tB___add___only_Function (by decide) (de_var 9 rfl (.inl rfl)) (de_mulO tB___mul___only_Function (by decide) (de_var 8 rfl (.inr (.inl rfl))) (de_var 10 rfl (.inl rfl)))))) da_nil)))))))))
theorem b_scaled_in (M : Mo) (h_made_operator : Has M "made_operator" 5 P_made_operator [] (spD M.G 2 f_made_operator)) (tB___mul___only_Function : ∀ c ff, (c, ff) ∈ ([("Function", f_Function___mul__)] : List (Str × FF)) → HasB M c "__mul__" 10 ff) (W : WX) : DB M 10 W N_scaled_in ⟨S_scaled_in, S_scaled_in, none, false, none⟩ (defBody (top 56)) n_scaled_in :=
  (db_one (d1_ret (de_call h_made_operator (by decide) (fun _ _ => Reps.nil) (da_cons (de_at (de_var 1 rfl (.inl rfl))) (da_cons (de_fz (df_lc [("entry", 2)] (di_seq (de_at (de_var 1 rfl (.inl rfl)))) (blkOk_by (by first | decide +kernel | (dsimp only; decide +kernel))) (dg_name 2 rfl (.inl rfl) (.inl rfl)) dts_nil (de_mulO tB___mul___only_Function (by decide) (de_var 0 rfl (.inr (.inl rfl))) (de_var 2 rfl (.inl rfl))))) da_nil)))))
theorem b_slope_ahead (M : Mo) (h_zero_of : Has M "zero_of" 8 P_zero_of [] (spD M.G 1 f_zero_of)) (h_slope_of : Has M "slope_of" 9 P_slope_of [] (spD M.G 1 f_slope_of)) (h_made_operator : Has M "made_operator" 5 P_made_operator [] (spD M.G 2 f_made_operator)) (m_zip : M.mg "zip" = none) (m_list : M.mg "list" = none) (tB___add___only_Function : ∀ c ff, (c, ff) ∈ ([("Function", f_Function___add__)] : List (Str × FF)) → HasB M c "__add__" 10 ff) (W : WX) : DB M 10 W N_slope_ahead ⟨S_slope_ahead, S_slope_ahead, none, false, none⟩ (defBody (top 57)) n_slope_ahead :=
  (db_cons (d1_set 1 rfl (.inl rfl) (.inl rfl) (de_call h_zero_of (by decide) (fun _ _ => Reps.nil) (da_cons (de_at (de_var 0 rfl (.inl rfl))) da_nil))) (db_cons (d1_setLcF 2 rfl rfl [("entry", 4)] (di_seq (de_at (de_var 0 rfl (.inl rfl)))) (blkOk_by (by first | decide +kernel | (dsimp only; decide +kernel))) (dg_name 4 rfl (.inl rfl) (.inl rfl)) dts_nil (de_call h_slope_of (by decide) (fun _ _ => Reps.nil) (da_cons (de_var 4 rfl (.inl rfl)) da_nil))) (db_cons (d1_set 3 rfl (.inl rfl) (.inl rfl) (de_fz (df_lzip m_zip m_list (da_cons (de_fz (df_lst (da_star (de_var 2 rfl (.inl rfl)) (da_cons (de_var 1 rfl (.inl rfl)) da_nil)))) (da_cons (de_fz (df_lst (da_cons (de_var 1 rfl (.inl rfl)) (da_star (de_at (de_var 0 rfl (.inl rfl))) da_nil)))) da_nil))))) (db_one (d1_ret (de_call h_made_operator (by decide) (fun _ _ => Reps.nil) (da_cons (de_at (de_var 0 rfl (.inl rfl))) (da_cons (de_fz (df_lc [("here", 5), ("there", 6)] (di_seq (de_var 3 rfl (.inl rfl))) (blkOk_by (by first | decide +kernel | (dsimp only; decide +kernel))) (dg_tup (dgs_name 5 rfl (.inl rfl) (.inl rfl) (dgs_name 6 rfl (.inl rfl) (.inl rfl) dgs_nil))) dts_nil (de_addO tB___add___only_Function (by decide) (de_var 5 rfl (.inl rfl)) (de_var 6 rfl (.inl rfl))))) da_nil))))))))
theorem b_applied_to (M : Mo) (h_zero_of : Has M "zero_of" 8 P_zero_of [] (spD M.G 1 f_zero_of)) (h_slope_of : Has M "slope_of" 9 P_slope_of [] (spD M.G 1 f_slope_of)) (tB___mul___only_Function : ∀ c ff, (c, ff) ∈ ([("Function", f_Function___mul__)] : List (Str × FF)) → HasB M c "__mul__" 10 ff) (tB___add___only_Function : ∀ c ff, (c, ff) ∈ ([("Function", f_Function___add__)] : List (Str × FF)) → HasB M c "__add__" 10 ff) (W : WX) : DB M 10 W N_applied_to ⟨S_applied_to, S_applied_to, none, false, none⟩ (defBody (top 59)) n_applied_to :=
  (db_cons (d1_par2 3 4 rfl rfl (by decide) rfl rfl (da_cons (de_call h_zero_of (by decide) (fun _ _ => Reps.nil) (da_cons (de_at (de_var 0 rfl (.inl rfl))) da_nil)) (da_cons (de_var 1 rfl (.inl rfl)) da_nil))) (db_cons (d1_for (vs := [2]) (di_seq (de_at (de_var 0 rfl (.inl rfl)))) (dg_name 2 rfl (.inl rfl) (.inl rfl)) (db_one (d1_par2 3 4 rfl rfl (by decide) rfl rfl (da_cons (de_addO tB___add___only_Function (by decide) (de_var 3 rfl (.inl rfl)) (de_mulO tB___mul___only_Function (by decide) (de_var 2 rfl (.inl rfl)) (de_var 4 rfl (.inl rfl)))) (da_cons (de_call h_slope_of (by decide) (fun _ _ => Reps.nil) (da_cons (de_var 4 rfl (.inl rfl)) da_nil)) da_nil))))) (db_one (d1_ret (de_var 3 rfl (.inl rfl))))))
theorem b_is_central (M : Mo) (h_require_operator : Has M "require_operator" 1 P_require_operator [] (spD M.G 1 f_require_operator)) (h_is_of_t : Has M "is_of_t" 10 P_is_of_t [] (spD M.G 1 f_is_of_t)) (m_enumerate : M.mg "enumerate" = none) (W : WX) : DB M 10 W N_is_central ⟨S_is_central, S_is_central, none, false, none⟩ (defBody (top 69)) n_is_central :=
  (db_cons (d1_expr (de_call h_require_operator (by decide) (fun _ _ => Reps.nil) (da_cons (de_var 0 rfl (.inl rfl)) da_nil))) (db_cons (d1_set 1 rfl (.inl rfl) (.inl rfl) (de_at (de_var 0 rfl (.inl rfl)))) (db_cons (d1_for (vs := [2, 3]) (di_enu m_enumerate (de_at (de_var 0 rfl (.inl rfl)))) (dg_tup (dgs_name 2 rfl (.inl rfl) (.inl rfl) (dgs_name 3 rfl (.inl rfl) (.inl rfl) dgs_nil))) (db_one (d1_if (dt_w (dw_or (dt_not (dt_val (de_call h_is_of_t (by decide) (fun _ _ => Reps.nil) (da_cons (de_var 3 rfl (.inl rfl)) da_nil)))) (dw_or1 (dt_w (dw_and (dt_cmp cm_ne (de_mod (de_var 2 rfl (.inl rfl)) (de_var 1 rfl (.inl rfl))) de_int) (dw_and1 (dt_cmp cm_neE (de_at (de_var 3 rfl (.inl rfl))) (de_tup da_nil)))))))) (db_one (d1_ret de_bl)) db_nil))) (db_one (d1_ret de_bl)))))
theorem b_product_in (M : Mo) (h_made_operator : Has M "made_operator" 5 P_made_operator [] (spD M.G 2 f_made_operator)) (h_scaled_in : Has M "scaled_in" 11 P_scaled_in [] (spD M.G 2 f_scaled_in)) (h_sum_in : Has M "sum_in" 11 P_sum_in [] (spD M.G 3 f_sum_in)) (h_slope_ahead : Has M "slope_ahead" 11 P_slope_ahead [] (spD M.G 1 f_slope_ahead)) (W : WX) : DB M 11 W N_product_in ⟨S_product_in, S_product_in, none, false, none⟩ (defBody (top 58)) n_product_in :=
  (db_cons (d1_par2 3 4 rfl rfl (by decide) rfl rfl (da_cons (de_call h_made_operator (by decide) (fun _ _ => Reps.nil) (da_cons (de_at (de_var 0 rfl (.inl rfl))) (da_cons (de_tup da_nil) da_nil))) (da_cons (de_var 1 rfl (.inl rfl)) da_nil))) (db_cons (d1_for (vs := [2]) (di_seq (de_at (de_var 0 rfl (.inl rfl)))) (dg_name 2 rfl (.inl rfl) (.inl rfl)) (db_cons (d1_set 3 rfl (.inl rfl) (.inl rfl) (de_call h_sum_in (by decide) (fun _ _ => Reps.nil) (da_cons (de_var 3 rfl (.inl rfl)) (da_cons (de_call h_scaled_in (by decide) (fun _ _ => Reps.nil) (da_cons (de_var 2 rfl (.inl rfl)) (da_cons (de_var 4 rfl (.inl rfl)) da_nil))) (da_cons de_int da_nil))))) (db_one (d1_set 4 rfl (.inl rfl) (.inl rfl) (de_call h_slope_ahead (by decide) (fun _ _ => Reps.nil) (da_cons (de_var 4 rfl (.inl rfl)) da_nil)))))) (db_one (d1_ret (de_var 3 rfl (.inl rfl))))))
theorem b_Operator_led (M : Mo) (h_require_function : Has M "require_function" 1 P_require_function [] (spD M.G 1 f_require_function)) (h_require_same_prime : Has M "require_same_prime" 1 P_require_same_prime [] (spD M.G 2 f_require_same_prime)) (h_scaled_in : Has M "scaled_in" 11 P_scaled_in [] (spD M.G 2 f_scaled_in)) (W : WX) : DB M 11 W N_Operator_led ⟨S_Operator_led, S_Operator_led, none, false, none⟩ (defBody (mem 66 10)) n_Operator_led :=
  (db_cons (d1_expr (de_call h_require_function (by decide) (fun _ _ => Reps.nil) (da_cons (de_var 1 rfl (.inl rfl)) da_nil))) (db_cons (d1_expr (de_call h_require_same_prime (by decide) (fun _ _ => Reps.nil) (da_cons (de_var 0 rfl (.inl rfl)) (da_cons (de_var 1 rfl (.inl rfl)) da_nil)))) (db_one (d1_ret (de_call h_scaled_in (by decide) (fun _ _ => Reps.nil) (da_cons (de_var 1 rfl (.inl rfl)) (da_cons (de_var 0 rfl (.inl rfl)) da_nil)))))))
theorem b_Operator_monic (M : Mo) (h_unit_of : Has M "unit_of" 8 P_unit_of [] (spD M.G 1 f_unit_of)) (h_scaled_in : Has M "scaled_in" 11 P_scaled_in [] (spD M.G 2 f_scaled_in)) (xr_InvalidOperation : XOwn M "InvalidOperation") (tB___floordiv___only_Function : ∀ c ff, (c, ff) ∈ ([("Function", f_Function___floordiv__)] : List (Str × FF)) → HasB M c "__floordiv__" 10 ff) (W : WX) : DB M 11 W N_Operator_monic ⟨S_Operator_monic, S_Operator_monic, none, false, none⟩ (defBody (mem 66 11)) n_Operator_monic :=
  (db_cons (d1_if (dt_cmp cm_eqE (de_at (de_var 0 rfl (.inl rfl))) (de_tup da_nil)) (db_one (d1_raise xr_InvalidOperation)) db_nil) (db_one (d1_ret (de_call h_scaled_in (by decide) (fun _ _ => Reps.nil) (da_cons (de_fdivO tB___floordiv___only_Function (by decide) (de_call h_unit_of (by decide) (fun _ _ => Reps.nil) (da_cons (de_at (de_var 0 rfl (.inl rfl))) da_nil)) (de_ix (de_at (de_var 0 rfl (.inl rfl))) (de_neg de_int))) (da_cons (de_var 0 rfl (.inl rfl)) da_nil))))))
theorem b_Operator___call__ (M : Mo) (h_require_function : Has M "require_function" 1 P_require_function [] (spD M.G 1 f_require_function)) (h_require_same_prime : Has M "require_same_prime" 1 P_require_same_prime [] (spD M.G 2 f_require_same_prime)) (h_applied_to : Has M "applied_to" 11 P_applied_to [] (spD M.G 2 f_applied_to)) (W : WX) : DB M 11 W N_Operator___call__ ⟨S_Operator___call__, S_Operator___call__, none, false, none⟩ (defBody (mem 66 12)) n_Operator___call__ :=
  (db_cons (d1_expr (de_call h_require_function (by decide) (fun _ _ => Reps.nil) (da_cons (de_var 1 rfl (.inl rfl)) da_nil))) (db_cons (d1_expr (de_call h_require_same_prime (by decide) (fun _ _ => Reps.nil) (da_cons (de_var 0 rfl (.inl rfl)) (da_cons (de_var 1 rfl (.inl rfl)) da_nil)))) (db_one (d1_ret (de_call h_applied_to (by decide) (fun _ _ => Reps.nil) (da_cons (de_var 0 rfl (.inl rfl)) (da_cons (de_var 1 rfl (.inl rfl)) da_nil)))))))
theorem b_Operator___add__ (M : Mo) (h_require_same_prime : Has M "require_same_prime" 1 P_require_same_prime [] (spD M.G 2 f_require_same_prime)) (h_sum_in : Has M "sum_in" 11 P_sum_in [] (spD M.G 3 f_sum_in)) (c_Operator : ∃ C, M.mg "Operator" = some (.ref C)) (hi_ : HasI M clsL) (m_isinstance : M.mg "isinstance" = none) (W : WX) : DB M 11 W N_Operator___add__ ⟨S_Operator___add__, S_Operator___add__, none, false, none⟩ (defBody (mem 66 13)) n_Operator___add__ :=
  (db_cons (d1_if (dt_not (dt_val (de_blt (bl_isiO hi_) m_isinstance (da_cons (de_var 1 rfl (.inl rfl)) (da_cons (de_cls c_Operator) da_nil))))) db_never db_nil) (db_cons (d1_expr (de_call h_require_same_prime (by decide) (fun _ _ => Reps.nil) (da_cons (de_var 0 rfl (.inl rfl)) (da_cons (de_var 1 rfl (.inl rfl)) da_nil)))) (db_one (d1_ret (de_call h_sum_in (by decide) (fun _ _ => Reps.nil) (da_cons (de_var 0 rfl (.inl rfl)) (da_cons (de_var 1 rfl (.inl rfl)) (da_cons de_int da_nil))))))))
theorem b_Operator___sub__ (M : Mo) (h_require_same_prime : Has M "require_same_prime" 1 P_require_same_prime [] (spD M.G 2 f_require_same_prime)) (h_sum_in : Has M "sum_in" 11 P_sum_in [] (spD M.G 3 f_sum_in)) (c_Operator : ∃ C, M.mg "Operator" = some (.ref C)) (hi_ : HasI M clsL) (m_isinstance : M.mg "isinstance" = none) (W : WX) : DB M 11 W N_Operator___sub__ ⟨S_Operator___sub__, S_Operator___sub__, none, false, none⟩ (defBody (mem 66 14)) n_Operator___sub__ :=
  (db_cons (d1_if (dt_not (dt_val (de_blt (bl_isiO hi_) m_isinstance (da_cons (de_var 1 rfl (.inl rfl)) (da_cons (de_cls c_Operator) da_nil))))) db_never db_nil) (db_cons (d1_expr (de_call h_require_same_prime (by decide) (fun _ _ => Reps.nil) (da_cons (de_var 0 rfl (.inl rfl)) (da_cons (de_var 1 rfl (.inl rfl)) da_nil)))) (db_one (d1_ret (de_call h_sum_in (by decide) (fun _ _ => Reps.nil) (da_cons (de_var 0 rfl (.inl rfl)) (da_cons (de_var 1 rfl (.inl rfl)) (da_cons (de_neg de_int) da_nil))))))))
theorem b_raised_operator (M : Mo) (h_require_within : Has M "require_within" 3 P_require_within [] (spD M.G 3 f_require_within)) (h_unit_of : Has M "unit_of" 8 P_unit_of [] (spD M.G 1 f_unit_of)) (h_made_operator : Has M "made_operator" 5 P_made_operator [] (spD M.G 2 f_made_operator)) (h_product_in : Has M "product_in" 12 P_product_in [] (spD M.G 2 f_product_in)) (g_MAX_RAISED_operators : Glb M "MAX_RAISED_operators" c_MAX_RAISED_operators) (m_range : M.mg "range" = none) (W : WX) : DB M 12 W N_raised_operator ⟨S_raised_operator, S_raised_operator, none, false, none⟩ (defBody (top 65)) n_raised_operator :=
  (db_cons (d1_expr (de_call h_require_within (by decide) (fun _ _ => Reps.nil) (da_cons (de_var 1 rfl (.inl rfl)) (da_cons de_int (da_cons (de_glob g_MAX_RAISED_operators) da_nil))))) (db_cons (d1_set 2 rfl (.inl rfl) (.inl rfl) (de_call h_made_operator (by decide) (fun _ _ => Reps.nil) (da_cons (de_at (de_var 0 rfl (.inl rfl))) (da_cons (de_tup (da_cons (de_call h_unit_of (by decide) (fun _ _ => Reps.nil) (da_cons (de_at (de_var 0 rfl (.inl rfl))) da_nil)) da_nil)) da_nil)))) (db_cons (d1_for (vs := [3]) (di_rng1 m_range (da_cons (de_var 1 rfl (.inl rfl)) da_nil)) (dg_name 3 rfl (.inl rfl) (.inl rfl)) (db_one (d1_set 2 rfl (.inl rfl) (.inl rfl) (de_call h_product_in (by decide) (fun _ _ => Reps.nil) (da_cons (de_var 2 rfl (.inl rfl)) (da_cons (de_var 0 rfl (.inl rfl)) da_nil)))))) (db_one (d1_ret (de_var 2 rfl (.inl rfl)))))))
theorem b_Operator___mul__ (M : Mo) (h_require_same_prime : Has M "require_same_prime" 1 P_require_same_prime [] (spD M.G 2 f_require_same_prime)) (h_product_in : Has M "product_in" 12 P_product_in [] (spD M.G 2 f_product_in)) (c_Operator : ∃ C, M.mg "Operator" = some (.ref C)) (hi_ : HasI M clsL) (m_isinstance : M.mg "isinstance" = none) (W : WX) : DB M 12 W N_Operator___mul__ ⟨S_Operator___mul__, S_Operator___mul__, none, false, none⟩ (defBody (mem 66 15)) n_Operator___mul__ :=
  (db_cons (d1_if (dt_not (dt_val (de_blt (bl_isiO hi_) m_isinstance (da_cons (de_var 1 rfl (.inl rfl)) (da_cons (de_cls c_Operator) da_nil))))) db_never db_nil) (db_cons (d1_expr (de_call h_require_same_prime (by decide) (fun _ _ => Reps.nil) (da_cons (de_var 0 rfl (.inl rfl)) (da_cons (de_var 1 rfl (.inl rfl)) da_nil)))) (db_one (d1_ret (de_call h_product_in (by decide) (fun _ _ => Reps.nil) (da_cons (de_var 0 rfl (.inl rfl)) (da_cons (de_var 1 rfl (.inl rfl)) da_nil)))))))
theorem b_commutator (M : Mo) (h_require_operator : Has M "require_operator" 1 P_require_operator [] (spD M.G 1 f_require_operator)) (h_require_same_prime : Has M "require_same_prime" 1 P_require_same_prime [] (spD M.G 2 f_require_same_prime)) (h_product_in : Has M "product_in" 12 P_product_in [] (spD M.G 2 f_product_in)) (h_sum_in : Has M "sum_in" 11 P_sum_in [] (spD M.G 3 f_sum_in)) (W : WX) : DB M 12 W N_commutator ⟨S_commutator, S_commutator, none, false, none⟩ (defBody (top 68)) n_commutator :=
  (db_cons (d1_expr (de_call h_require_operator (by decide) (fun _ _ => Reps.nil) (da_cons (de_var 0 rfl (.inl rfl)) da_nil))) (db_cons (d1_expr (de_call h_require_operator (by decide) (fun _ _ => Reps.nil) (da_cons (de_var 1 rfl (.inl rfl)) da_nil))) (db_cons (d1_expr (de_call h_require_same_prime (by decide) (fun _ _ => Reps.nil) (da_cons (de_var 0 rfl (.inl rfl)) (da_cons (de_var 1 rfl (.inl rfl)) da_nil)))) (db_one (d1_ret (de_call h_sum_in (by decide) (fun _ _ => Reps.nil) (da_cons (de_call h_product_in (by decide) (fun _ _ => Reps.nil) (da_cons (de_var 0 rfl (.inl rfl)) (da_cons (de_var 1 rfl (.inl rfl)) da_nil))) (da_cons (de_call h_product_in (by decide) (fun _ _ => Reps.nil) (da_cons (de_var 1 rfl (.inl rfl)) (da_cons (de_var 0 rfl (.inl rfl)) da_nil))) (da_cons (de_neg de_int) da_nil)))))))))
theorem b_Operator___pow__ (M : Mo) (h_raised_operator : Has M "raised_operator" 13 P_raised_operator [] (spD M.G 2 f_raised_operator)) (W : WX) : DB M 13 W N_Operator___pow__ ⟨S_Operator___pow__, S_Operator___pow__, none, false, none⟩ (defBody (mem 66 17)) n_Operator___pow__ :=
  (db_one (d1_ret (de_call h_raised_operator (by decide) (fun _ _ => Reps.nil) (da_cons (de_var 0 rfl (.inl rfl)) (da_cons (de_var 1 rfl (.inl rfl)) da_nil)))))
theorem b__law_made_right (M : Mo) (h__law_one_of : Has M "_law_one_of" 2 P__law_one_of [] (spD M.G 2 f__law_one_of)) (tT___pow___only_Operator : ∀ c ff, (c, ff) ∈ ([("Operator", f_Operator___pow__)] : List (Str × FF)) → HasBT M c .Pow 14 ff) (c_Function : ∃ C, M.mg "Function" = some (.ref C)) (tC_number : ∀ c ff, (c, ff) ∈ ([("Function", f_Function_number)] : List (Str × FF)) → HasCM M c "number" 8 3 ff) (tB___mul___only_Operator : ∀ c ff, (c, ff) ∈ ([("Operator", f_Operator___mul__)] : List (Str × FF)) → HasB M c "__mul__" 13 ff) (c_Operator : ∃ C, M.mg "Operator" = some (.ref C)) (tC_slopes : ∀ c ff, (c, ff) ∈ ([("Operator", f_Operator_slopes)] : List (Str × FF)) → HasCM M c "slopes" 9 3 ff) (hc_Operator : HasC M "Operator" ["own_entries", "own_prime"] 3 3 f_Operator___init__) (m_repr : M.mg "repr" = none) (tB___add___only_Operator : ∀ c ff, (c, ff) ∈ ([("Operator", f_Operator___add__)] : List (Str × FF)) → HasB M c "__add__" 12 ff) (tC_factor : ∀ c ff, (c, ff) ∈ ([("Operator", f_Operator_factor)] : List (Str × FF)) → HasCM M c "factor" 9 2 ff) (tC_times : ∀ c ff, (c, ff) ∈ ([("Operator", f_Operator_times)] : List (Str × FF)) → HasCM M c "times" 6 2 ff) (c_InvalidOperation : ∃ C, M.mg "InvalidOperation" = some (.ref C)) (c_InvalidOperator : ∃ C, M.mg "InvalidOperator" = some (.ref C)) (c_InvalidFunction : ∃ C, M.mg "InvalidFunction" = some (.ref C)) (xf_InvalidNumber : XfF M "InvalidNumber" "given") (c_InvalidNumber : ∃ C, M.mg "InvalidNumber" = some (.ref C)) (st__law_fault : SubOk M tab__law_fault) (mt__law_fault : MetF M "_law_fault" "call" (defScope (top 75)) (defBody (top 75))) (cc PP : Addr) (qq : Str) (W : WX) : DB M 15 W N__law_made_right ⟨S__law_made_right, S__law_made_right, some (cc, PP, qq), true, none⟩ (defBody (top 76)) n__law_made_right :=
  (db_cons (d1_set 1 rfl (.inr rfl) (.inr rfl) (de_callB h__law_one_of (by decide) (fun _ _ => Reps.nil) (da_cons (de_var 0 rfl (.inl rfl)) (da_cons (de_fz (df_lst (da_cons de_non (da_cons de_int (da_cons de_int (da_cons de_int (da_cons de_int (da_cons (de_neg de_int) (da_cons de_bl (da_cons de_str (da_cons (de_tup (da_cons de_int da_nil)) (da_cons (de_powO tT___pow___only_Operator (by decide) de_int de_int) da_nil)))))))))))) da_nil)))) (db_cons (d1_asg (vs := [7, 8, 9]) (de_tup (da_cons (de_cmeth _ tC_number (by decide) (de_cls c_Function) (da_cons de_int (da_cons de_int da_nil))) (da_cons (de_cmeth _ tC_number (by decide) (de_cls c_Function) (da_cons de_int (da_cons de_int da_nil))) (da_cons (de_cmeth _ tC_number (by decide) (de_cls c_Function) (da_cons de_int (da_cons de_int da_nil))) da_nil)))) (dg_tup (dgs_name 7 rfl (.inr rfl) (.inr rfl) (dgs_name 8 rfl (.inl rfl) (.inl rfl) (dgs_name 9 rfl (.inr rfl) (.inr rfl) dgs_nil))))) (db_cons (d1_set 2 rfl (.inl rfl) (.inl rfl) (de_fz (df_lst (da_cons de_non (da_cons de_int (da_cons (de_fz (df_lst (da_cons (de_var 7 rfl (.inr (.inl rfl))) da_nil))) (da_cons (de_var 7 rfl (.inr (.inl rfl))) (da_cons (de_tup (da_cons de_int da_nil)) (da_cons (de_tup (da_cons (de_var 7 rfl (.inr (.inl rfl))) (da_cons de_non da_nil))) (da_cons (de_tup (da_cons (de_var 8 rfl (.inl rfl)) da_nil)) (da_cons (de_tup (da_cons (de_var 7 rfl (.inr (.inl rfl))) (da_cons (de_var 8 rfl (.inl rfl)) da_nil))) (da_cons (de_mulO tB___mul___only_Operator (by decide) (de_tup (da_cons (de_var 7 rfl (.inr (.inl rfl))) da_nil)) de_int) (da_cons de_str (da_cons de_dict0 (da_cons (de_tup (da_cons (de_var 7 rfl (.inr (.inl rfl))) (da_cons (de_tup (da_cons de_int da_nil)) da_nil))) da_nil))))))))))))))) (db_cons (d1_set 3 rfl (.inr rfl) (.inr rfl) (de_callB h__law_one_of (by decide) (fun _ _ => Reps.nil) (da_cons (de_var 0 rfl (.inl rfl)) (da_cons (de_var 2 rfl (.inl rfl)) da_nil)))) (db_cons (d1_set 4 rfl (.inr rfl) (.inr rfl) (de_callB h__law_one_of (by decide) (fun _ _ => Reps.nil) (da_cons (de_var 0 rfl (.inl rfl)) (da_cons (de_fz (df_lst (da_cons de_non (da_cons (de_neg de_int) (da_cons de_int (da_cons de_bl (da_cons de_str (da_cons (de_tup (da_cons de_int da_nil)) (da_cons (de_powO tT___pow___only_Operator (by decide) de_int de_int) da_nil))))))))) da_nil)))) (db_cons (d1_set 5 rfl (.inr rfl) (.inr rfl) (de_callB h__law_one_of (by decide) (fun _ _ => Reps.nil) (da_cons (de_var 0 rfl (.inl rfl)) (da_cons (de_fz (df_lst (da_cons de_non (da_cons de_int (da_cons de_str (da_cons (de_tup (da_cons de_int da_nil)) (da_cons (de_cmeth _ tC_slopes (by decide) (de_cls c_Operator) (da_cons de_int (da_cons de_int da_nil))) (da_cons (de_fz (df_lst (da_cons (de_var 7 rfl (.inr (.inl rfl))) da_nil))) da_nil)))))))) da_nil)))) (db_lamsR 13 6 10 11 mt__law_fault (sc_met__law_fault) rfl (.inl rfl) (fun _ => rfl) (.named c_InvalidNumber (by intro _; rfl) rfl (j := 1) rfl (by intro _; rfl) (dx_tup (dx_cons dx_str (dx_cons (dx_add dx_str (dx_rep m_repr (dx_fld (y := "InvalidNumber") rfl (.inl rfl) xf_InvalidNumber))) dx_nil))) (.plain c_InvalidFunction (by intro _; rfl) rfl (dx_tup (dx_cons dx_str (dx_cons dx_str dx_nil))) (.plain c_InvalidOperator (by intro _; rfl) rfl (dx_tup (dx_cons dx_str (dx_cons dx_str dx_nil))) (.plain c_InvalidOperation (by intro _; rfl) rfl (dx_tup (dx_cons dx_str (dx_cons dx_str dx_nil))) .nil)))) st__law_fault (de_tup (da_cons de_str (da_cons de_str da_nil))) (by intro _ _; rfl) (by decide) (.cons (fun W => (de_new hc_Operator (by decide) (da_cons (de_var 1 rfl (.inr (.inr rfl))) (da_cons (de_var 3 rfl (.inr (.inr rfl))) da_nil)))) (by first | decide +kernel | (dsimp only; decide +kernel)) (fun _ => rfl) (fun _ _ _ _ _ => rfl) (de_addO tB___add___only_Operator (by decide) de_str (de_reprG m_repr (de_var 1 rfl (.inr (.inl rfl))))) (fun _ => rfl) (fun _ => rfl) (.cons (fun W => (de_new hc_Operator (by decide) (da_cons de_int (da_cons (de_var 3 rfl (.inr (.inr rfl))) da_nil)))) (by first | decide +kernel | (dsimp only; decide +kernel)) (fun _ => rfl) (fun _ _ _ _ _ => rfl) de_str (fun _ => rfl) (fun _ => rfl) (.cons (fun W => (de_new hc_Operator (by decide) (da_cons de_int (da_cons (de_tup (da_cons (de_var 7 rfl (.inr (.inr rfl))) (da_cons (de_var 9 rfl (.inr (.inr rfl))) da_nil))) da_nil)))) (by first | decide +kernel | (dsimp only; decide +kernel)) (fun _ => rfl) (fun _ _ _ _ _ => rfl) de_str (fun _ => rfl) (fun _ => rfl) (.cons (fun W => (de_new hc_Operator (by decide) (da_cons de_int (da_cons (de_tup (da_cons (de_var 7 rfl (.inr (.inr rfl))) da_nil)) da_nil)))) (by first | decide +kernel | (dsimp only; decide +kernel)) (fun _ => rfl) (fun _ _ _ _ _ => rfl) de_str (fun _ => rfl) (fun _ => rfl) (.cons (fun W => (de_new hc_Operator (by decide) (da_cons de_int (da_cons (de_mulO tB___mul___only_Operator (by decide) (de_tup (da_cons (de_var 7 rfl (.inr (.inr rfl))) da_nil)) de_int) da_nil)))) (by first | decide +kernel | (dsimp only; decide +kernel)) (fun _ => rfl) (fun _ _ _ _ _ => rfl) de_str (fun _ => rfl) (fun _ => rfl) (.cons (fun W => (de_new hc_Operator (by decide) (da_cons de_int (da_cons (de_tup da_nil) da_nil)))) (by first | decide +kernel | (dsimp only; decide +kernel)) (fun _ => rfl) (fun _ _ _ _ _ => rfl) de_str (fun _ => rfl) (fun _ => rfl) (.cons (fun W => (de_cmeth _ tC_slopes (by decide) (de_cls c_Operator) (da_cons (de_var 1 rfl (.inr (.inr rfl))) (da_cons (de_var 4 rfl (.inr (.inr rfl))) da_nil)))) (by first | decide +kernel | (dsimp only; decide +kernel)) (fun _ => rfl) (fun _ _ _ _ _ => rfl) (de_addO tB___add___only_Operator (by decide) de_str (de_reprG m_repr (de_var 1 rfl (.inr (.inl rfl))))) (fun _ => rfl) (fun _ => rfl) (.cons (fun W => (de_cmeth _ tC_slopes (by decide) (de_cls c_Operator) (da_cons de_int (da_cons (de_var 4 rfl (.inr (.inr rfl))) da_nil)))) (by first | decide +kernel | (dsimp only; decide +kernel)) (fun _ => rfl) (fun _ _ _ _ _ => rfl) (de_addO tB___add___only_Operator (by decide) de_str (de_reprG m_repr (de_var 4 rfl (.inr (.inl rfl))))) (fun _ => rfl) (fun _ => rfl) (.cons (fun W => (de_cmeth _ tC_slopes (by decide) (de_cls c_Operator) (da_cons de_int (da_cons de_int da_nil)))) (by first | decide +kernel | (dsimp only; decide +kernel)) (fun _ => rfl) (fun _ _ _ _ _ => rfl) de_str (fun _ => rfl) (fun _ => rfl) (.cons (fun W => (de_cmeth _ tC_factor (by decide) (de_cls c_Operator) (da_cons (de_var 5 rfl (.inr (.inr rfl))) da_nil))) (by first | decide +kernel | (dsimp only; decide +kernel)) (fun _ => rfl) (fun _ _ _ _ _ => rfl) de_str (fun _ => rfl) (fun _ => rfl) (.cons (fun W => (de_cmeth _ tC_times (by decide) (de_cls c_Operator) (da_cons (de_var 5 rfl (.inr (.inr rfl))) da_nil))) (by first | decide +kernel | (dsimp only; decide +kernel)) (fun _ => rfl) (fun _ _ _ _ _ => rfl) de_str (fun _ => rfl) (fun _ => rfl) .nil))))))))))) rfl (blkOk_by (by first | decide +kernel | (dsimp only; decide +kernel))) rfl rfl (.inl rfl) rfl (.inl rfl) (.inl rfl) rfl (.inl rfl) (.inl rfl))))))))
theorem b__law_used_right (M : Mo) (h__law_one_of : Has M "_law_one_of" 2 P__law_one_of [] (spD M.G 2 f__law_one_of)) (h_commutator : Has M "commutator" 13 P_commutator [] (spD M.G 2 f_commutator)) (h_is_central : Has M "is_central" 11 P_is_central [] (spD M.G 1 f_is_central)) (h_each_made : HasGn M "each_made" 2 P_each_made (spG M.G 2 f_each_made)) (c_Operator : ∃ C, M.mg "Operator" = some (.ref C)) (tC_slopes : ∀ c ff, (c, ff) ∈ ([("Operator", f_Operator_slopes)] : List (Str × FF)) → HasCM M c "slopes" 9 3 ff) (c_Function : ∃ C, M.mg "Function" = some (.ref C)) (tC_number : ∀ c ff, (c, ff) ∈ ([("Function", f_Function_number)] : List (Str × FF)) → HasCM M c "number" 8 3 ff) (tT___pow___only_Operator : ∀ c ff, (c, ff) ∈ ([("Operator", f_Operator___pow__)] : List (Str × FF)) → HasBT M c .Pow 14 ff) (tO___call___only_Operator : ∀ c ff, (c, ff) ∈ ([("Operator", f_Operator___call__)] : List (Str × FF)) → HasCO M c 12 2 ff) (tM_led : ∀ c ff, (c, ff) ∈ ([("Operator", f_Operator_led)] : List (Str × FF)) → HasM M c "led" 12 2 ff) (tM_entry : ∀ c ff, (c, ff) ∈ ([("Operator", f_Operator_entry)] : List (Str × FF)) → HasM M c "entry" 9 2 ff) (m_repr : M.mg "repr" = none) (tB___add___only_Operator : ∀ c ff, (c, ff) ∈ ([("Operator", f_Operator___add__)] : List (Str × FF)) → HasB M c "__add__" 12 ff) (hc_Operator : HasC M "Operator" ["own_entries", "own_prime"] 3 3 f_Operator___init__) (tM_monic : ∀ c ff, (c, ff) ∈ ([("Operator", f_Operator_monic)] : List (Str × FF)) → HasM M c "monic" 12 1 ff) (tB___sub___only_Operator : ∀ c ff, (c, ff) ∈ ([("Operator", f_Operator___sub__)] : List (Str × FF)) → HasB M c "__sub__" 12 ff) (tB___mul___only_Operator : ∀ c ff, (c, ff) ∈ ([("Operator", f_Operator___mul__)] : List (Str × FF)) → HasB M c "__mul__" 13 ff) (ns_InvalidOperation : NSt M "InvalidOperation") (ns_InvalidFunction : NSt M "InvalidFunction") (ns_InvalidOperator : NSt M "InvalidOperator") (m_list : M.mg "list" = none) (c_InvalidOperation : ∃ C, M.mg "InvalidOperation" = some (.ref C)) (c_InvalidOperator : ∃ C, M.mg "InvalidOperator" = some (.ref C)) (c_InvalidFunction : ∃ C, M.mg "InvalidFunction" = some (.ref C)) (xf_InvalidNumber : XfF M "InvalidNumber" "given") (c_InvalidNumber : ∃ C, M.mg "InvalidNumber" = some (.ref C)) (st__law_fault : SubOk M tab__law_fault) (mt__law_fault : MetF M "_law_fault" "call" (defScope (top 75)) (defBody (top 75))) (cc PP : Addr) (qq : Str) (W : WX) : DB M 16 W N__law_used_right ⟨S__law_used_right, S__law_used_right, some (cc, PP, qq), true, none⟩ (defBody (top 77)) n__law_used_right :=
  (db_cons (d1_asg (vs := [5, 6, 7]) (de_tup (da_cons (de_cmeth _ tC_slopes (by decide) (de_cls c_Operator) (da_cons de_int (da_cons de_int da_nil))) (da_cons (de_cmeth _ tC_slopes (by decide) (de_cls c_Operator) (da_cons de_int (da_cons de_int da_nil))) (da_cons (de_cmeth _ tC_number (by decide) (de_cls c_Function) (da_cons de_int (da_cons de_int da_nil))) da_nil)))) (dg_tup (dgs_name 5 rfl (.inr rfl) (.inr rfl) (dgs_name 6 rfl (.inr rfl) (.inr rfl) (dgs_name 7 rfl (.inr rfl) (.inr rfl) dgs_nil))))) (db_cons (d1_set 1 rfl (.inr rfl) (.inr rfl) (de_callB h__law_one_of (by decide) (fun _ _ => Reps.nil) (da_cons (de_var 0 rfl (.inl rfl)) (da_cons (de_fz (df_lst (da_cons de_non (da_cons de_int (da_cons de_str (da_cons (de_tup (da_cons de_int da_nil)) (da_cons (de_var 5 rfl (.inr (.inl rfl))) (da_cons (de_fz (df_lst (da_cons (de_var 7 rfl (.inr (.inl rfl))) da_nil))) (da_cons de_dict0 da_nil))))))))) da_nil)))) (db_cons (d1_set 2 rfl (.inr rfl) (.inr rfl) (de_callB h__law_one_of (by decide) (fun _ _ => Reps.nil) (da_cons (de_var 0 rfl (.inl rfl)) (da_cons (de_fz (df_lst (da_cons de_non (da_cons de_int (da_cons de_str (da_cons (de_tup (da_cons (de_var 7 rfl (.inr (.inl rfl))) da_nil)) (da_cons (de_var 7 rfl (.inr (.inl rfl))) (da_cons (de_fz (df_lst (da_cons (de_var 5 rfl (.inr (.inl rfl))) da_nil))) (da_cons de_dict0 da_nil))))))))) da_nil)))) (db_cons (d1_set 3 rfl (.inr rfl) (.inr rfl) (de_callB h__law_one_of (by decide) (fun _ _ => Reps.nil) (da_cons (de_var 0 rfl (.inl rfl)) (da_cons (de_fz (df_lst (da_cons de_non (da_cons (de_neg de_int) (da_cons de_int (da_cons de_bl (da_cons de_str (da_cons (de_tup (da_cons de_int da_nil)) (da_cons (de_powO tT___pow___only_Operator (by decide) de_int de_int) da_nil))))))))) da_nil)))) (db_lamsR 14 4 8 9 mt__law_fault (sc_met__law_fault) rfl (.inl rfl) (fun _ => rfl) (.named c_InvalidNumber (by intro _; rfl) rfl (j := 1) rfl (by intro _; rfl) (dx_tup (dx_cons dx_str (dx_cons (dx_add dx_str (dx_rep m_repr (dx_fld (y := "InvalidNumber") rfl (.inl rfl) xf_InvalidNumber))) dx_nil))) (.plain c_InvalidFunction (by intro _; rfl) rfl (dx_tup (dx_cons dx_str (dx_cons dx_str dx_nil))) (.plain c_InvalidOperator (by intro _; rfl) rfl (dx_tup (dx_cons dx_str (dx_cons dx_str dx_nil))) (.plain c_InvalidOperation (by intro _; rfl) rfl (dx_tup (dx_cons dx_str (dx_cons dx_str dx_nil))) .nil)))) st__law_fault (de_tup (da_cons de_str (da_cons de_str da_nil))) (by intro _ _; rfl) (by decide) (.cons (fun W => (de_callO tO___call___only_Operator (by decide) (de_var 5 rfl (.inr (.inr rfl))) (da_cons (de_var 1 rfl (.inr (.inr rfl))) da_nil))) (by first | decide +kernel | (dsimp only; decide +kernel)) (fun _ => rfl) (fun _ _ _ _ _ => rfl) de_str (fun _ => rfl) (fun _ => rfl) (.cons (fun W => (de_callO tO___call___only_Operator (by decide) (de_var 5 rfl (.inr (.inr rfl))) (da_cons (de_cmeth _ tC_number (by decide) (de_cls c_Function) (da_cons de_int (da_cons de_int da_nil))) da_nil))) (by first | decide +kernel | (dsimp only; decide +kernel)) (fun _ => rfl) (fun _ _ _ _ _ => rfl) de_str (fun _ => rfl) (fun _ => rfl) (.cons (fun W => (de_meth _ tM_led (by decide) (de_var 5 rfl (.inr (.inr rfl))) (da_cons (de_var 1 rfl (.inr (.inr rfl))) da_nil))) (by first | decide +kernel | (dsimp only; decide +kernel)) (fun _ => rfl) (fun _ _ _ _ _ => rfl) de_str (fun _ => rfl) (fun _ => rfl) (.cons (fun W => (de_meth _ tM_led (by decide) (de_var 5 rfl (.inr (.inr rfl))) (da_cons (de_cmeth _ tC_number (by decide) (de_cls c_Function) (da_cons de_int (da_cons de_int da_nil))) da_nil))) (by first | decide +kernel | (dsimp only; decide +kernel)) (fun _ => rfl) (fun _ _ _ _ _ => rfl) de_str (fun _ => rfl) (fun _ => rfl) (.cons (fun W => (de_meth _ tM_entry (by decide) (de_var 5 rfl (.inr (.inr rfl))) (da_cons (de_var 3 rfl (.inr (.inr rfl))) da_nil))) (by first | decide +kernel | (dsimp only; decide +kernel)) (fun _ => rfl) (fun _ _ _ _ _ => rfl) (de_addO tB___add___only_Operator (by decide) de_str (de_reprG m_repr (de_var 3 rfl (.inr (.inl rfl))))) (fun _ => rfl) (fun _ => rfl) (.cons (fun W => (de_meth _ tM_entry (by decide) (de_var 5 rfl (.inr (.inr rfl))) (da_cons de_int da_nil))) (by first | decide +kernel | (dsimp only; decide +kernel)) (fun _ => rfl) (fun _ _ _ _ _ => rfl) de_str (fun _ => rfl) (fun _ => rfl) (.cons (fun W => (de_meth0 _ tM_monic (by decide) (de_new hc_Operator (by decide) (da_cons de_int (da_cons (de_tup da_nil) da_nil))))) (by first | decide +kernel | (dsimp only; decide +kernel)) (fun _ => rfl) (fun _ _ _ _ _ => rfl) de_str (fun _ => rfl) (fun _ => rfl) (.cons (fun W => (de_addO tB___add___only_Operator (by decide) (de_var 5 rfl (.inr (.inr rfl))) (de_var 6 rfl (.inr (.inr rfl))))) (by first | decide +kernel | (dsimp only; decide +kernel)) (fun _ => rfl) (fun _ _ _ _ _ => rfl) de_str (fun _ => rfl) (fun _ => rfl) (.cons (fun W => (de_subO tB___sub___only_Operator (by decide) (de_var 5 rfl (.inr (.inr rfl))) (de_var 6 rfl (.inr (.inr rfl))))) (by first | decide +kernel | (dsimp only; decide +kernel)) (fun _ => rfl) (fun _ _ _ _ _ => rfl) de_str (fun _ => rfl) (fun _ => rfl) (.cons (fun W => (de_mulO tB___mul___only_Operator (by decide) (de_var 5 rfl (.inr (.inr rfl))) (de_var 6 rfl (.inr (.inr rfl))))) (by first | decide +kernel | (dsimp only; decide +kernel)) (fun _ => rfl) (fun _ _ _ _ _ => rfl) de_str (fun _ => rfl) (fun _ => rfl) (.cons (fun W => (de_powO tT___pow___only_Operator (by decide) (de_var 5 rfl (.inr (.inr rfl))) de_int)) (by first | decide +kernel | (dsimp only; decide +kernel)) (fun _ => rfl) (fun _ _ _ _ _ => rfl) de_str (fun _ => rfl) (fun _ => rfl) (.cons (fun W => (de_powO tT___pow___only_Operator (by decide) (de_var 5 rfl (.inr (.inr rfl))) de_int)) (by first | decide +kernel | (dsimp only; decide +kernel)) (fun _ => rfl) (fun _ _ _ _ _ => rfl) de_str (fun _ => rfl) (fun _ => rfl) (.cons (fun W => (de_call h_commutator (by decide) (fun _ _ => Reps.nil) (da_cons (de_var 2 rfl (.inr (.inr rfl))) (da_cons (de_var 2 rfl (.inr (.inr rfl))) da_nil)))) (by first | decide +kernel | (dsimp only; decide +kernel)) (fun _ => rfl) (fun _ _ _ _ _ => rfl) de_str (fun _ => rfl) (fun _ => rfl) (.cons (fun W => (de_call h_commutator (by decide) (fun _ _ => Reps.nil) (da_cons (de_var 5 rfl (.inr (.inr rfl))) (da_cons (de_var 2 rfl (.inr (.inr rfl))) da_nil)))) (by first | decide +kernel | (dsimp only; decide +kernel)) (fun _ => rfl) (fun _ _ _ _ _ => rfl) de_str (fun _ => rfl) (fun _ => rfl) (.cons (fun W => (de_call h_commutator (by decide) (fun _ _ => Reps.nil) (da_cons (de_var 5 rfl (.inr (.inr rfl))) (da_cons (de_var 6 rfl (.inr (.inr rfl))) da_nil)))) (by first | decide +kernel | (dsimp only; decide +kernel)) (fun _ => rfl) (fun _ _ _ _ _ => rfl) de_str (fun _ => rfl) (fun _ => rfl) (.cons (fun W => (de_call h_is_central (by decide) (fun _ _ => Reps.nil) (da_cons (de_var 2 rfl (.inr (.inr rfl))) da_nil))) (by first | decide +kernel | (dsimp only; decide +kernel)) (fun _ => rfl) (fun _ _ _ _ _ => rfl) de_str (fun _ => rfl) (fun _ => rfl) (.cons (fun W => (de_fz (df_lgen ["InvalidOperator", "InvalidFunction", "InvalidOperation"] h_each_made (by decide) (nst_cons ns_InvalidOperator (nst_cons ns_InvalidFunction (nst_cons ns_InvalidOperation nst_nil))) m_list (da_cons (de_var 2 rfl (.inr (.inr rfl))) (da_cons (de_var 1 rfl (.inr (.inr rfl))) da_nil))))) (by first | decide +kernel | (dsimp only; decide +kernel)) (fun _ => rfl) (fun _ _ _ _ _ => rfl) de_str (fun _ => rfl) (fun _ => rfl) (.cons (fun W => (de_fz (df_lgen ["InvalidOperator", "InvalidFunction", "InvalidOperation"] h_each_made (by decide) (nst_cons ns_InvalidOperator (nst_cons ns_InvalidFunction (nst_cons ns_InvalidOperation nst_nil))) m_list (da_cons (de_var 5 rfl (.inr (.inr rfl))) (da_cons (de_var 1 rfl (.inr (.inr rfl))) da_nil))))) (by first | decide +kernel | (dsimp only; decide +kernel)) (fun _ => rfl) (fun _ _ _ _ _ => rfl) de_str (fun _ => rfl) (fun _ => rfl) (.cons (fun W => (de_fz (df_lgen ["InvalidOperator", "InvalidFunction", "InvalidOperation"] h_each_made (by decide) (nst_cons ns_InvalidOperator (nst_cons ns_InvalidFunction (nst_cons ns_InvalidOperation nst_nil))) m_list (da_cons (de_var 5 rfl (.inr (.inr rfl))) (da_cons (de_tup (da_cons (de_var 7 rfl (.inr (.inr rfl))) (da_cons (de_cmeth _ tC_number (by decide) (de_cls c_Function) (da_cons de_int (da_cons de_int da_nil))) da_nil))) da_nil))))) (by first | decide +kernel | (dsimp only; decide +kernel)) (fun _ => rfl) (fun _ _ _ _ _ => rfl) de_str (fun _ => rfl) (fun _ => rfl) (.cons (fun W => (de_fz (df_lgen ["InvalidOperator", "InvalidFunction", "InvalidOperation"] h_each_made (by decide) (nst_cons ns_InvalidOperator (nst_cons ns_InvalidFunction (nst_cons ns_InvalidOperation nst_nil))) m_list (da_cons (de_var 5 rfl (.inr (.inr rfl))) (da_cons (de_tup da_nil) da_nil))))) (by first | decide +kernel | (dsimp only; decide +kernel)) (fun _ => rfl) (fun _ _ _ _ _ => rfl) de_str (fun _ => rfl) (fun _ => rfl) .nil)))))))))))))))))))) rfl (blkOk_by (by first | decide +kernel | (dsimp only; decide +kernel))) rfl rfl (.inl rfl) rfl (.inl rfl) (.inl rfl) rfl (.inl rfl) (.inl rfl))))))
theorem b_law (M : Mo) (h__law_bag : Has M "_law_bag" 1 P__law_bag [] (spF M.G 2 f__law_bag)) (h__law_made_right : HasG M "_law_made_right" 16 P__law_made_right [] (spD M.G 1 f__law_made_right)) (h__law_used_right : HasG M "_law_used_right" 17 P__law_used_right [] (spD M.G 1 f__law_used_right)) (m_len : M.mg "len" = none) (m_min : M.mg "min" = none) (m_max : M.mg "max" = none) (m_range : M.mg "range" = none) (hc_Operator : HasC M "Operator" ["own_entries", "own_prime"] 3 3 f_Operator___init__) (tP_degree : ∀ c ff, (c, ff) ∈ ([("Function", f_Function_degree), ("Operator", f_Operator_degree)] : List (Str × FF)) → HasP M c "degree" 1 ff) (tE___eq___only_Operator : ∀ c ff, (c, ff) ∈ ([("Operator", f_Operator___eq__)] : List (Str × FF)) → HasE M c 3 ff) (c_Operator : ∃ C, M.mg "Operator" = some (.ref C)) (tC_slopes : ∀ c ff, (c, ff) ∈ ([("Operator", f_Operator_slopes)] : List (Str × FF)) → HasCM M c "slopes" 9 3 ff) (tU___len___only_Operator : ∀ c ff, (c, ff) ∈ ([("Operator", f_Operator___len__)] : List (Str × FF)) → HasU M c "__len__" 1 ff) (W : WX) : DB M 17 W N_law ⟨S_law, S_law, none, true, none⟩ (defBody (top 78)) n_law :=
  (db_cons (d1_for (vs := [1]) (di_rng1 m_range (da_cons (de_blt bl_max2 m_max (da_cons de_int (da_cons (de_blt bl_min2 m_min (da_cons de_int (da_cons (de_blt bl_len m_len (da_cons (de_var 0 rfl (.inl rfl)) da_nil)) da_nil))) da_nil))) da_nil)) (dg_name 1 rfl (.inl rfl) (.inl rfl)) (db_cons (d1_set 2 rfl (.inl rfl) (.inl rfl) (de_hnd (df_call h__law_bag (by decide) (fun _ _ => Reps.nil) (da_cons (de_var 0 rfl (.inl rfl)) (da_cons (de_var 1 rfl (.inl rfl)) da_nil))))) (db_one (d1_if (dt_w (dw_or (dt_not (dt_val (de_callBG h__law_made_right (by decide) (fun _ _ => Reps.nil) (da_cons (de_var 2 rfl (.inl rfl)) da_nil)))) (dw_or1 (dt_not (dt_val (de_callBG h__law_used_right (by decide) (fun _ _ => Reps.nil) (da_cons (de_var 2 rfl (.inl rfl)) da_nil))))))) (db_one (d1_ret de_bl)) db_nil)))) (db_one (d1_ret (de_and (de_eqO tE___eq___only_Operator (by decide) (de_prop tP_degree (by decide) (de_new hc_Operator (by decide) (da_cons de_int (da_cons (de_tup da_nil) da_nil)))) (de_neg de_int)) (de_one (de_eqO tE___eq___only_Operator (by decide) (de_lenO tU___len___only_Operator (by decide) m_len (de_cmeth _ tC_slopes (by decide) (de_cls c_Operator) (da_cons de_int (da_cons de_int da_nil)))) de_int))))))
end Gn
namespace Pm
theorem getD_lt {xs : List Int} {i : Nat} {d : Int} (h : i < xs.length) : xs.getD i d = xs[i] := by simp [List.getD_eq_getElem?_getD, h]
theorem getD_ge {xs : List Int} {i : Nat} {d : Int} (h : xs.length ≤ i) : xs.getD i d = d := by simp [List.getD_eq_getElem?_getD, h]
def trim : List Int → List Int
  | [] => []
  | x :: xs => match trim xs with
    | [] => if x = 0 then [] else [x]
    | y :: ys => x :: y :: ys
/-- a list as an operator on sequences: the sum of c i * f (n + i) -/
def T : List Int → (Nat → Int) → Nat → Int
  | [], _, _ => 0
  | c :: cs, f, n => c * f n + T cs f (n + 1)
structure Nrm (p : Int) (xs : List Int) : Prop where
  lo : ∀ x ∈ xs, 0 ≤ x ∧ x < p
  tr : trim xs = xs
/-- alike modulo p -/
def Md (p a b : Int) : Prop := a % p = b % p
theorem Md.refl {p a : Int} : Md p a a := rfl
theorem Md.symm {p a b : Int} (h : Md p a b) : Md p b a := Eq.symm h
theorem Md.trans {p a b c : Int} (h : Md p a b) (k : Md p b c) : Md p a c := Eq.trans h k
theorem Md.sub {p a b c d : Int} (h : Md p a b) (k : Md p c d) : Md p (a - c) (b - d) := by
  unfold Md at *; rw [Int.sub_emod, h, k, ← Int.sub_emod]
theorem Md.mod {p a : Int} : Md p (a % p) a := Int.emod_emod_of_dvd a (Int.dvd_refl p)
theorem Md.of_eq {p a b : Int} (h : a = b) : Md p a b := by rw [h]; rfl
theorem Md.eq {p a b : Int} (h : Md p a b) (ha : 0 ≤ a ∧ a < p) (hb : 0 ≤ b ∧ b < p) : a = b := by
  unfold Md at h; rwa [Int.emod_eq_of_lt ha.1 ha.2, Int.emod_eq_of_lt hb.1 hb.2] at h
theorem trim_cons (x : Int) (xs : List Int) : trim (x :: xs) = if trim xs = [] then (if x = 0 then [] else [x]) else x :: trim xs := by
  show (match trim xs with
    | [] => if x = 0 then [] else [x]
    | y :: ys => x :: y :: ys) = _
  cases trim xs <;> simp
theorem trim_zero (xs : List Int) : trim (xs ++ [0]) = trim xs := by
  induction xs with
  | nil => rfl
  | cons x xs ih => rw [List.cons_append, trim_cons, trim_cons, ih]
theorem trim_idem (xs : List Int) : trim (trim xs) = trim xs := by
  induction xs with
  | nil => rfl
  | cons x xs ih =>
    rw [trim_cons]
    by_cases h : trim xs = []
    · rw [if_pos h]
      by_cases hx : x = 0
      · rw [if_pos hx]; rfl
      · rw [if_neg hx, trim_cons]; simp [trim, hx]
    · rw [if_neg h, trim_cons, ih, if_neg h]
theorem trim_len (xs : List Int) : (trim xs).length ≤ xs.length := by
  induction xs with
  | nil => exact Nat.le_refl _
  | cons x xs ih =>
    rw [trim_cons]
    split
    · split <;> simp
    · simpa using ih
theorem trim_getD (xs : List Int) (i : Nat) : (trim xs).getD i 0 = xs.getD i 0 := by
  induction xs generalizing i with
  | nil => rfl
  | cons x xs ih =>
    rw [trim_cons]
    by_cases h : trim xs = []
    · rw [if_pos h]
      have z : ∀ j, xs.getD j 0 = 0 := fun j => by rw [← ih, h]; rfl
      by_cases hx : x = 0
      · rw [if_pos hx]
        cases i with
        | zero => simp [hx]
        | succ j => simpa using (z j).symm
      · rw [if_neg hx]
        cases i with
        | zero => rfl
        | succ j => simpa using (z j).symm
    · rw [if_neg h]
      cases i with
      | zero => rfl
      | succ j => simpa using ih j
/-- trimmed: nothing, or the last one is not 0 -/
theorem trim_last {xs : List Int} (h : trim xs = xs) : xs = [] ∨ xs.getD (xs.length - 1) 0 ≠ 0 := by
  rcases List.eq_nil_or_concat xs with e | ⟨ys, y, e⟩
  · exact .inl e
  · right
    rw [List.concat_eq_append] at e
    subst e
    have hy : y ≠ 0 := fun z => by
      rw [z, trim_zero] at h
      have := trim_len ys
      rw [h] at this
      simp at this
      omega
    simpa using hy
theorem trim_short {xs : List Int} {k : Nat} (h : ∀ i, k ≤ i → xs.getD i 0 = 0) : (trim xs).length ≤ k := by
  rcases trim_last (trim_idem xs) with e | e
  · rw [e]; exact Nat.zero_le _
  · rw [trim_getD] at e
    by_cases hk : k ≤ (trim xs).length - 1
    · exact absurd (h _ hk) e
    · omega
theorem trim_eq_of {xs ys : List Int} (hx : trim xs = xs) (hy : trim ys = ys) (h : ∀ i, xs.getD i 0 = ys.getD i 0) : xs = ys := by
  have lx : xs.length ≤ ys.length := by
    rw [← hx]
    refine trim_short fun i hi => ?_
    rw [h, getD_ge hi]
  have ly : ys.length ≤ xs.length := by
    rw [← hy]
    refine trim_short fun i hi => ?_
    rw [← h, getD_ge hi]
  apply List.ext_getElem (by omega)
  intro i h1 h2
  have := h i
  rwa [getD_lt h1, getD_lt h2] at this
theorem T_getD (xs : List Int) (k n : Nat) : T xs (fun m => if m = k + n then 1 else 0) n = xs.getD k 0 := by
  induction xs generalizing k n with
  | nil => rfl
  | cons x xs ih =>
    show x * (if n = k + n then 1 else 0) + T xs _ (n + 1) = _
    cases k with
    | zero =>
      rw [if_pos (by omega)]
      have z : ∀ (ys : List Int) (j : Nat), 0 < j → T ys (fun m => if m = 0 + n then 1 else 0) (n + j) = 0 := by
        intro ys
        induction ys with
        | nil => intros; rfl
        | cons y ys ih2 =>
          intro j hj
          show y * (if n + j = 0 + n then 1 else 0) + T ys _ (n + j + 1) = 0
          rw [if_neg (by omega), show n + j + 1 = n + (j + 1) from rfl, ih2 (j + 1) (by omega)]
          simp
      rw [z xs 1 (by omega)]
      simp
    | succ k =>
      rw [if_neg (by omega)]
      have e := ih k (n + 1)
      have e2 : (fun m => if m = k + (n + 1) then (1 : Int) else 0) = fun m => if m = k + 1 + n then 1 else 0 := by
        funext m
        by_cases h : m = k + 1 + n
        · rw [if_pos h, if_pos (by omega)]
        · rw [if_neg h, if_neg (by omega)]
      rw [e2] at e
      rw [e]
      simp
def TE (p : Int) (a b : List Int) : Prop := ∀ f n, Md p (T a f n) (T b f n)
theorem getD_lo {p : Int} {xs : List Int} (hp : 0 < p) (h : ∀ x ∈ xs, 0 ≤ x ∧ x < p) (i : Nat) : 0 ≤ xs.getD i 0 ∧ xs.getD i 0 < p := by
  by_cases hi : i < xs.length
  · rw [getD_lt hi]; exact h _ (List.getElem_mem hi)
  · rw [getD_ge (by omega)]; exact ⟨Int.le_refl _, hp⟩
theorem TE.uniq {p : Int} (hp : 0 < p) {a b : List Int} (ha : Nrm p a) (hb : Nrm p b) (h : TE p a b) : a = b := by
  refine trim_eq_of ha.tr hb.tr fun i => ?_
  have z := h (fun m => if m = i + 0 then 1 else 0) 0
  rw [T_getD, T_getD] at z
  exact z.eq (getD_lo hp ha.lo i) (getD_lo hp hb.lo i)
end Pm
namespace Pm
def isP (p : Int) : Prop := p = 2 ∨ p = 3 ∨ p = 5 ∨ p = 7
theorem isP.pos {p : Int} (h : isP p) : 0 < p := by rcases h with h | h | h | h <;> omega
end Pm
namespace Pm
def It (a : List Int) : Nat → (Nat → Int) → Nat → Int
  | 0, f => f
  | n + 1, f => T a (It a n f)
end Pm
namespace DS
open PySem PySem.Spec PyProof.Rows L2
section
variable {a b : Type} {x : a} {st st1 : Sto} {sd : Sl} {c : Exc} {k : a → Sto → Res b} {kS : a → Sto → SR}
@[simp] theorem rb_ok : (Res.ok x st).bind k = k x st := id rfl
@[simp] theorem rb_ex : (Res.ex c st : Res a).bind k = .ex c st := id rfl
@[simp] theorem rb_stk : (Res.stk : Res a).bind k = .stk := id rfl
@[simp] theorem rs_ok : (Res.ok x st).toS sd kS = kS x st := id rfl
@[simp] theorem rs_ex : (Res.ex c st : Res a).toS sd kS = .ex c sd st := id rfl
@[simp] theorem rs_stk : (Res.stk : Res a).toS sd kS = .stk := id rfl
@[simp] theorem ro_some : Res.ofO (some x) st = .ok x st := id rfl
@[simp] theorem ro_none : (Res.ofO none st : Res a) = .stk := id rfl
@[simp] theorem rn_ok : (Res.ok x st).noex = .ok x st := id rfl
end
section
variable {st : Sto} {sd : Sl} {d : D} {f fa fb fc : EE} {fs fr : EA} {t t2 : ET} {g g2 : SS} {i j l : Nat}
@[simp] theorem ev_c : eC d sd st = .ok d st := id rfl
@[simp] theorem ev_v0 {r : Sl} : eVar 0 (some d :: r) st = .ok d st := id rfl
@[simp] theorem ev_vs {o : Option D} {r : Sl} : eVar (i + 1) (o :: r) st = eVar i r st := id rfl
@[simp] theorem ev_op {o : Sto → D → D → Option D} : eOp o fa fb sd st = (fa sd st).bind fun x st1 => (fb sd st1).bind fun y st2 => Res.ofO (o st2 x y) st2 := id rfl
@[simp] theorem ev_fop {o : Sto → D → D → Option (List D)} : fOp o fa fb sd st = (fa sd st).bind fun x st1 => (fb sd st1).bind fun y st2 => Res.ofO (o st2 x y) st2 := id rfl
@[simp] theorem ev_un {o : Sto → D → Option D} : eUn o fa sd st = (fa sd st).bind fun x st1 => Res.ofO (o st1 x) st1 := id rfl
@[simp] theorem ev_nil : aNil sd st = .ok [] st := id rfl
@[simp] theorem ev_cons : aCons fa fr sd st = (fa sd st).bind fun x st1 => (fr sd st1).bind fun xs st2 => .ok (x :: xs) st2 := id rfl
@[simp] theorem ev_tup : eTup fs sd st = (fs sd st).bind fun xs st1 => if xs.length ≤ lineN then .ok (.tup xs) st1 else .stk := id rfl
@[simp] theorem ev_lst : fLst fs sd st = (fs sd st).bind fun xs st1 => if xs.length ≤ lineN then .ok xs st1 else .stk := id rfl
@[simp] theorem ev_fz : eFz fs sd st = (fs sd st).bind fun xs st1 => .ok (.lst xs) st1 := id rfl
@[simp] theorem ev_hnd : eHnd fs sd st = (fs sd st).bind fun xs st1 => .ok (.hnd st1.length) (st1 ++ [.lst xs]) := id rfl
@[simp] theorem ev_test : eTest f sd st = (f sd st).bind fun x st1 => Res.ofO x.isB st1 := id rfl
@[simp] theorem isB_bl {k : Bool} : (D.bl k).isB = some k := id rfl
@[simp] theorem ev_and : eAnd t t2 sd st = (t sd st).bind fun x st1 => if x = true then t2 sd st1 else .ok false st1 := id rfl
@[simp] theorem ev_or : eOr t t2 sd st = (t sd st).bind fun x st1 => if x = true then .ok true st1 else t2 sd st1 := id rfl
@[simp] theorem ev_not : eNot t sd st = (t sd st).bind fun x st1 => .ok (!x) st1 := id rfl
theorem ev_andV : eAndV fa fb sd st = (fa sd st).bind fun x st1 => match x with
  | .bl true => fb sd st1
  | .bl false => .ok (.bl false) st1
  | _ => .stk := rfl
@[simp] theorem ev_andV' {k : Bool} {st1 : Sto} (h : fa sd st = .ok (.bl k) st1) : eAndV fa fb sd st = if k = true then fb sd st1 else .ok (.bl false) st1 := by
  rw [ev_andV, h]; cases k <;> rfl
theorem ev_orV : eOrV fa fb sd st = (fa sd st).bind fun x st1 => match x with
  | .bl true => .ok (.bl true) st1
  | .bl false => fb sd st1
  | _ => .stk := rfl
@[simp] theorem ev_orV' {k : Bool} {st1 : Sto} (h : fa sd st = .ok (.bl k) st1) : eOrV fa fb sd st = if k = true then .ok (.bl true) st1 else fb sd st1 := by
  rw [ev_orV, h]; cases k <;> rfl
@[simp] theorem ev_notV' {k : Bool} {st1 : Sto} (h : fa sd st = .ok (.bl k) st1) : eNotV fa sd st = .ok (.bl (!k)) st1 := by
  show (fa sd st).bind _ = _
  rw [h]; rfl
@[simp] theorem ev_if : eIf t fa fb sd st = (t sd st).bind fun x st1 => if x = true then fa sd st1 else fb sd st1 := id rfl
@[simp] theorem ev_cb {o : Sto → List D → Option D} : eCB o fs sd st = (fs sd st).bind fun xs st1 => Res.ofO (o st1 xs) st1 := id rfl
@[simp] theorem ev_fcb {o : Sto → List D → Option (List D)} : fCB o fs sd st = (fs sd st).bind fun xs st1 => Res.ofO (o st1 xs) st1 := id rfl
@[simp] theorem ev_chain {o o' : Sto → D → D → Option D} {st1 st2 : Sto} {x y : D} {k : Bool} (h1 : fa sd st = .ok x st1) (h2 : fb sd st1 = .ok y st2) (h3 : o st2 x y = some (.bl k)) : eChain o o' fa fb fc sd st = if k = true then (fc sd st2).bind fun z st3 => Res.ofO (o' st3 y z) st3 else .ok (.bl false) st2 := by
  unfold eChain
  rw [h1, rb_ok, h2, rb_ok, h3]
  cases k <;> rfl
@[simp] theorem ev_cal {n : Nat} {ff : FF} {dds : List D} : eCal n ff dds fs sd st = (fs sd st).bind fun ds st1 => callD n ff st1 (ds ++ dds) := id rfl
@[simp] theorem ev_calB {n : Nat} {ff : FF} {dds : List D} : eCalB n ff dds fs sd st = (fs sd st).bind fun ds st1 => callBD n ff st1 (ds ++ dds) := id rfl
@[simp] theorem ev_fcal {n : Nat} {ff : FL} {dds : List D} : fCal n ff dds fs sd st = (fs sd st).bind fun ds st1 => callLD n ff st1 (ds ++ dds) := id rfl
@[simp] theorem ev_calK {np nk n : Nat} {ff : FF} : eCalK np nk n ff fs fr sd st = (fs sd st).bind fun ds st1 => (fr sd st1).bind fun es st2 => if ds.length = np ∧ es.length = nk then (callD n ff st2 (ds ++ es)).noex else .stk := id rfl
@[simp] theorem sv_next : sNext sd st = .go .nx sd st := id rfl
@[simp] theorem sv_set : sSet i f sd st = (f sd st).toS sd fun x st1 => .go .nx (sd.set i (some x)) st1 := id rfl
@[simp] theorem sv_ret : sRet f sd st = (f sd st).toS sd fun x st1 => .go (.ret x) sd st1 := id rfl
@[simp] theorem sv_drop : sDrop f sd st = (f sd st).toS sd fun _ st1 => .go .nx sd st1 := id rfl
@[simp] theorem sv_if : sIf t g g2 sd st = (t sd st).toS sd fun x st1 => if x = true then g sd st1 else g2 sd st1 := id rfl
def seqK (r : SR) (k : Sl → Sto → SR) : SR := match r with
  | .go .nx sd1 st1 => k sd1 st1
  | r => r
@[simp] theorem sv_seq : sSeq g g2 sd st = seqK (g sd st) g2 := id rfl
@[simp] theorem sk_nx {k : Sl → Sto → SR} : seqK (.go .nx sd st) k = k sd st := id rfl
@[simp] theorem sk_ret {k : Sl → Sto → SR} : seqK (.go (.ret d) sd st) k = .go (.ret d) sd st := id rfl
@[simp] theorem sk_brk {k : Sl → Sto → SR} : seqK (.go .brk sd st) k = .go .brk sd st := id rfl
@[simp] theorem sk_cnt {k : Sl → Sto → SR} : seqK (.go .cnt sd st) k = .go .cnt sd st := id rfl
@[simp] theorem sk_ex {c : Exc} {k : Sl → Sto → SR} : seqK (.ex c sd st) k = .ex c sd st := id rfl
@[simp] theorem sv_asg {fg : D → SS} : sAsg f fg sd st = (f sd st).toS sd fun x st1 => tgtG (fg x sd st1) fun sd st => .go .nx sd st := id rfl
@[simp] theorem tg_nx {k : Sl → Sto → SR} : tgtG (.go .nx sd st) k = k sd st := id rfl
@[simp] theorem gv_name : gNameD i d sd st = .go .nx (sd.set i (some d)) st := id rfl
@[simp] theorem gv_tup {gs : List (D → SS)} {ds : List D} : gTupD gs (.tup ds) sd st = if ds.length = gs.length then gListD gs ds sd st else .stk := id rfl
@[simp] theorem gv_nil : gListD [] [] sd st = .go .nx sd st := id rfl
@[simp] theorem gv_cons {h : D → SS} {gs : List (D → SS)} {ds : List D} : gListD (h :: gs) (d :: ds) sd st = seqK (h d sd st) (gListD gs ds) := id rfl
@[simp] theorem sv_par2 {x y : D} {st1 : Sto} (h : fs sd st = .ok [x, y] st1) : sPar2 i j fs sd st = .go .nx ((sd.set i (some x)).set j (some y)) st1 := by
  show (fs sd st).toS sd _ = _
  rw [h]; rfl
@[simp] theorem sv_par3 {x y z : D} {st1 : Sto} (h : fs sd st = .ok [x, y, z] st1) : sPar3 i j l fs sd st = .go .nx (((sd.set i (some x)).set j (some y)).set l (some z)) st1 := by
  show (fs sd st).toS sd _ = _
  rw [h]; rfl
end
def P (xs : List Int) : D := .tup (xs.map D.int)
@[simp] theorem P_fold (xs : List Int) : D.tup (xs.map D.int) = P xs := id rfl
@[simp] theorem noHs_ints (xs : List Int) : D.noHs (xs.map D.int) = true := by
  induction xs with
  | nil => rfl
  | cons x xs ih => show ((D.int x).noH && D.noHs (xs.map D.int)) = true; rw [ih]; rfl
@[simp] theorem noLs_ints (xs : List Int) : D.noLs (xs.map D.int) = true := by
  induction xs with
  | nil => rfl
  | cons x xs ih => show ((D.int x).noL && D.noLs (xs.map D.int)) = true; rw [ih]; rfl
@[simp] theorem noH_P (xs : List Int) : (P xs).noH = true := noHs_ints xs
@[simp] theorem noL_P (xs : List Int) : (P xs).noL = true := noLs_ints xs
@[simp] theorem noHs_nil : D.noHs [] = true := id rfl
@[simp] theorem noHs_cons (x : D) (xs : List D) : D.noHs (x :: xs) = (x.noH && D.noHs xs) := id rfl
@[simp] theorem noLs_nil : D.noLs [] = true := id rfl
@[simp] theorem noLs_cons (x : D) (xs : List D) : D.noLs (x :: xs) = (x.noL && D.noLs xs) := id rfl
@[simp] theorem noH_int (i : Int) : (D.int i).noH = true := id rfl
@[simp] theorem noH_bl (i : Bool) : (D.bl i).noH = true := id rfl
@[simp] theorem noH_str (i : Str) : (D.str i).noH = true := id rfl
@[simp] theorem noH_non : D.non.noH = true := id rfl
@[simp] theorem noH_tup (xs : List D) : (D.tup xs).noH = D.noHs xs := id rfl
@[simp] theorem noH_lst (xs : List D) : (D.lst xs).noH = D.noHs xs := id rfl
@[simp] theorem noH_scr (xs : List D) : (D.scr xs).noH = D.noHs xs := id rfl
@[simp] theorem noH_hnd (i : Nat) : (D.hnd i).noH = false := id rfl
@[simp] theorem noL_int (i : Int) : (D.int i).noL = true := id rfl
@[simp] theorem noL_bl (i : Bool) : (D.bl i).noL = true := id rfl
@[simp] theorem noL_non : D.non.noL = true := id rfl
@[simp] theorem noL_tup (xs : List D) : (D.tup xs).noL = D.noLs xs := id rfl
theorem cb_ok {n h : Nat} {ff : FF} {rest xs ys : List D} {d : D} {st : Sto} (hs : st[h]? = some (.lst xs)) (hf : ff [.lst xs] (.hnd 0 :: rest) = .ok d [.lst ys]) (hl : (D.hnd h :: rest).length = n) (h1 : D.noHs xs = true) (h2 : D.noHs rest = true) (h3 : d.noH = true) (h4 : D.noHs ys = true) :
    callBD n ff st (.hnd h :: rest) = .ok d (st.set h (.lst ys)) := by
  unfold callBD
  rw [if_pos hl]
  show (match st[h]? with
    | some (.lst xs) => if D.noHs xs && D.noHs rest then callB st h (ff [.lst xs] (.hnd 0 :: rest)) else .stk
    | _ => .stk) = _
  rw [hs]
  show (if (D.noHs xs && D.noHs rest) = true then callB st h (ff [.lst xs] (.hnd 0 :: rest)) else .stk) = _
  rw [h1, h2, hf]
  show (if (d.noH && D.noHs ys) = true then Res.ok d (st.set h (.lst ys)) else .stk) = _
  rw [h3, h4]
  rfl
section
variable {st : Sto} {i j p : Int} {a b : List Int}
@[simp] theorem o_add : addD st (.int i) (.int j) = some (.int (i + j)) := id rfl
@[simp] theorem o_ints {g : Int → Int → Option D} : ints2 g st (.int i) (.int j) = g i j := id rfl
theorem small_of (h1 : -(2 ^ 64) < i) (h2 : i < 2 ^ 64) : small64 i = true := by
  simp only [small64, Bool.and_eq_true, decide_eq_true_eq]
  exact ⟨h1, h2⟩
theorem o_mul (h : small64 i = true ∨ small64 j = true) : mulD st (.int i) (.int j) = some (.int (i * j)) := by
  show (mulI i j).or _ = _
  unfold mulI
  rw [if_pos (by rcases h with h | h <;> simp [h])]
  rfl
theorem o_mod (h : 0 < j) : modI i j = some (.int (i % j)) := by unfold modI; rw [if_pos h]
theorem o_div (h : 0 < j) (h2 : j.natAbs.log2 < 9000) : divI i j = some (.int (i / j)) := by unfold divI; rw [if_pos ⟨h, h2⟩]
@[simp] theorem o_neg : negD st (.int i) = some (.int (-i)) := id rfl
theorem pyDs_ints (xs : List Int) : pyDs (xs.map D.int) = some (xs.map PyData.int) := by
  induction xs with
  | nil => rfl
  | cons x xs ih =>
    show (match pyD (.int x), pyDs (xs.map D.int) with
      | some a, some as => some (a :: as)
      | _, _ => none) = _
    rw [ih]; rfl
theorem eqvAll_ints : ∀ (xs ys : List Int), PyData.eqvAll (xs.map PyData.int) (ys.map PyData.int) = decide (xs = ys)
  | [], [] => rfl
  | [], _ :: _ => rfl
  | _ :: _, [] => rfl
  | x :: xs, y :: ys => by
    show (PyData.eqv (.int x) (.int y) && PyData.eqvAll (xs.map PyData.int) (ys.map PyData.int)) = _
    rw [eqvAll_ints xs ys]
    show ((x == y) && decide (xs = ys)) = _
    by_cases h : x = y <;> by_cases h2 : xs = ys <;> simp [h, h2]
theorem shaped_ints (xs : List Int) : SeqAt.shaped (.tuple (xs.map PyData.int)) = true ∧ SeqAt.shaped (.list (xs.map PyData.int)) = true := by
  have h1 : ∀ xs : List Int, PyData.canLayAll0 (xs.map PyData.int) = true := by
    intro xs
    induction xs with
    | nil => rfl
    | cons x xs ih => show (PyData.canLay0 (.int x) && PyData.canLayAll0 (xs.map PyData.int)) = true; rw [ih]; rfl
  have h2 : ∀ xs : List Int, PyData.depthAll (xs.map PyData.int) ≤ 1 := by
    intro xs
    induction xs with
    | nil => decide
    | cons x xs ih => show max (PyData.depth (.int x)) (PyData.depthAll (xs.map PyData.int)) ≤ 1; exact Nat.max_le.mpr ⟨by simp [PyData.depth], ih⟩
  constructor
  · unfold SeqAt.shaped
    show (PyData.canLayAll0 (xs.map PyData.int) && decide (PyData.depthAll (xs.map PyData.int) + 1 ≤ 64)) = true
    rw [h1, decide_eq_true (by have := h2 xs; omega)]; rfl
  · unfold SeqAt.shaped
    show (PyData.canLayAll0 (xs.map PyData.int) && decide (PyData.depthAll (xs.map PyData.int) + 1 ≤ 64)) = true
    rw [h1, decide_eq_true (by have := h2 xs; omega)]; rfl
theorem eqB_P : eqB st (P a) (P b) = some (decide (a = b)) := by
  unfold eqB
  show (match (pyDs (a.map D.int)).map PyData.tuple, (pyDs (b.map D.int)).map PyData.tuple with
    | some a, some b => if SeqAt.shaped a && SeqAt.shaped b then some (PyData.eqv a b) else none
    | _, _ => none) = _
  rw [pyDs_ints, pyDs_ints]
  show (if SeqAt.shaped (.tuple (a.map PyData.int)) && SeqAt.shaped (.tuple (b.map PyData.int)) then some (PyData.eqvAll (a.map PyData.int) (b.map PyData.int)) else none) = _
  rw [(shaped_ints a).1, (shaped_ints b).1, eqvAll_ints]
  rfl
@[simp] theorem o_eqP : eqD st (P a) (P b) = some (.bl (decide (a = b))) := by unfold eqD; rw [eqB_P]; rfl
@[simp] theorem o_neP : neD st (P a) (P b) = some (.bl (!decide (a = b))) := by unfold neD; rw [eqB_P]; rfl
@[simp] theorem o_eqP0 : eqD st (P a) (.tup []) = some (.bl (decide (a = []))) := o_eqP (b := [])
@[simp] theorem o_neP0 : neD st (P a) (.tup []) = some (.bl (!decide (a = []))) := o_neP (b := [])
@[simp] theorem o_eqI : eqD st (.int i) (.int j) = some (.bl (decide (i = j))) := by
  show some (D.bl (i == j)) = _
  by_cases h : i = j <;> simp [h]
@[simp] theorem o_neI : neD st (.int i) (.int j) = some (.bl (!decide (i = j))) := by
  show some (D.bl (!(i == j))) = _
  by_cases h : i = j <;> simp [h]
@[simp] theorem l_lenP : lenD st [P a] = some (.int a.length) := by
  show some (D.int (a.map D.int).length) = _
  rw [List.length_map]
@[simp] theorem l_lenL {xs : List D} : lenD st [.lst xs] = some (.int xs.length) := id rfl
@[simp] theorem l_lenS {xs : List D} : lenD st [.scr xs] = some (.int xs.length) := id rfl
@[simp] theorem l_lenT {xs : List D} : lenD st [.tup xs] = some (.int xs.length) := id rfl
theorem atI_map {α β : Type} (f : α → β) (xs : List α) (i : Int) : L2.atI (xs.map f) i = (L2.atI xs i).map f := by
  unfold L2.atI
  rw [List.length_map]
  cases ixN xs.length i with
  | none => rfl
  | some k => show (xs.map f)[k]? = _; rw [List.getElem?_map]; rfl
@[simp] theorem x_P : ixD st (P a) (.int i) = (L2.atI a i).map D.int := by
  show L2.atI (a.map D.int) i = _
  rw [atI_map]
@[simp] theorem x_T {xs : List D} : ixD st (.tup xs) (.int i) = L2.atI xs i := id rfl
@[simp] theorem x_L {xs : List D} : ixD st (.lst xs) (.int i) = L2.atI xs i := id rfl
@[simp] theorem x_S {xs : List D} : ixD st (.scr xs) (.int i) = L2.atI xs i := id rfl
theorem atI_lt {α : Type} {xs : List α} {k : Nat} (h : k < xs.length) (hi : i = (k : Int)) : L2.atI xs i = some xs[k] := by
  subst hi
  unfold L2.atI ixN
  rw [if_pos (by omega), if_pos (by omega)]
  show xs[(k : Int).toNat]? = _
  rw [Int.toNat_natCast, List.getElem?_eq_getElem h]
@[simp] theorem t_lst {xs : List D} : tupleD st [.lst xs] = some (.tup xs) := id rfl
@[simp] theorem t_P : tupleD st [P a] = some (P a) := id rfl
@[simp] theorem l_P : listD st [P a] = some (a.map D.int) := id rfl
@[simp] theorem i_int : intOf st [.int i] = some (.int i) := id rfl
@[simp] theorem i_bl {k : Bool} : intOf st [.bl k] = some (.int (if k = true then 1 else 0)) := id rfl
end
def Walks (n : Nat) (fi : EI) (sd : Sl) (st st' : Sto) (L : List D) : Prop := ∃ it, fi sd st = .ok (it, n) st' ∧ L.length ≤ n ∧ ∀ s i, it s i = some L[i]?
section
variable {sd : Sl} {st st' : Sto} {f : EE} {fs : EA} {xs ys : List D}
def rngL (lo c : Int) (n : Nat) : List D := (List.range n).map fun i : Nat => .int (lo + i * c)
theorem rngD_at (lo c : Int) (n : Nat) (s : Sto) (i : Nat) : rngD lo c n s i = some (rngL lo c n)[i]? := by
  unfold rngD rngL
  rw [List.getElem?_map]
  by_cases h : i < n
  · rw [if_pos h, List.getElem?_range h]; rfl
  · rw [if_neg h, List.getElem?_eq_none (by simpa using h)]; rfl
theorem wk_rng {k n : Nat} {ds : List D} {lo c : Int} (h : fs sd st = .ok ds st') (hl : ds.length = k) (hr : rngOf ds = some (lo, c, n)) : Walks n (iRngN k fs) sd st st' (rngL lo c n) := by
  refine ⟨rngD lo c n, ?_, by simp [rngL], fun s i => rngD_at lo c n s i⟩
  unfold iRngN
  rw [h]
  show (if ds.length = k then _ else _) = _
  rw [if_pos hl]
  show (match rngOf ds with
    | some (lo, c, n) => _
    | none => _) = _
  rw [hr]
/-- a for: what each turn does, until the end or a way out -/
theorem for_gen {fi : EI} {fg : D → SS} {b : SS} {L : List D} {n : Nat} (hw : Walks n fi sd st st' L) (R : SR → Prop) (Inv : Nat → Sl → Sto → Prop) (h0 : Inv 0 sd st')
    (hs : ∀ (i : Nat) (x : D) (sd : Sl) (st : Sto), L[i]? = some x → Inv i sd st → ∃ sd1 st1, fg x sd st = .go .nx sd1 st1 ∧ match b sd1 st1 with
      | .go .nx sd2 st2 => Inv (i + 1) sd2 st2
      | .go .cnt sd2 st2 => Inv (i + 1) sd2 st2
      | .go .brk sd2 st2 => R (.go .nx sd2 st2)
      | r => R r) (he : ∀ sd st, Inv L.length sd st → R (.go .nx sd st)) : R (sFor fi fg b sd st) := by
  obtain ⟨it, h1, h2, h3⟩ := hw
  unfold sFor
  rw [h1, rs_ok]
  have go : ∀ (m i : Nat) (sd : Sl) (st : Sto), i + m = n + 1 → i ≤ L.length → Inv i sd st → R (sForN it fg b m i sd st) := by
    intro m
    induction m with
    | zero => intro i sd st e hi; omega
    | succ m ih =>
      intro i sd st e hi hI
      show R (match it st i with
        | none => .stk
        | some none => .go .nx sd st
        | some (some d) => tgtG (fg d sd st) fun sd1 st1 => loopG (b sd1 st1) (sForN it fg b m (i + 1)))
      rw [h3]
      by_cases hl : i < L.length
      · rw [List.getElem?_eq_getElem hl]
        obtain ⟨sd1, st1, e1, e2⟩ := hs i L[i] sd st (List.getElem?_eq_getElem hl) hI
        show R (tgtG (fg L[i] sd st) fun sd1 st1 => loopG (b sd1 st1) (sForN it fg b m (i + 1)))
        rw [e1]
        show R (loopG (b sd1 st1) (sForN it fg b m (i + 1)))
        cases q : b sd1 st1 with
        | go fl sd2 st2 =>
          rw [q] at e2
          cases fl with
          | nx => exact ih (i + 1) sd2 st2 (by omega) hl e2
          | cnt => exact ih (i + 1) sd2 st2 (by omega) hl e2
          | brk => exact e2
          | ret d => exact e2
        | ex c sd2 st2 => rw [q] at e2; exact e2
        | stk => rw [q] at e2; exact e2
      · rw [List.getElem?_eq_none (by omega)]
        have : i = L.length := by omega
        subst this
        exact he sd st hI
  exact go (n + 1) 0 sd st' (by omega) (Nat.zero_le _) h0
/-- a for without ways out -/
theorem for_run {fi : EI} {fg : D → SS} {b : SS} {L : List D} {n : Nat} (hw : Walks n fi sd st st' L) (Inv : Nat → Sl → Sto → Prop) (h0 : Inv 0 sd st')
    (hs : ∀ (i : Nat) (x : D) (sd : Sl) (st : Sto), L[i]? = some x → Inv i sd st → ∃ sd1 st1 sd2 st2, fg x sd st = .go .nx sd1 st1 ∧ b sd1 st1 = .go .nx sd2 st2 ∧ Inv (i + 1) sd2 st2) : ∃ sd2 st2, sFor fi fg b sd st = .go .nx sd2 st2 ∧ Inv L.length sd2 st2 :=
  for_gen hw (fun r => ∃ sd2 st2, r = .go .nx sd2 st2 ∧ Inv L.length sd2 st2) Inv h0 (fun i x sd st hx hI => by
    obtain ⟨sd1, st1, sd2, st2, e1, e2, e3⟩ := hs i x sd st hx hI
    exact ⟨sd1, st1, e1, by rw [e2]; exact e3⟩) fun sd st hI => ⟨sd, st, rfl, hI⟩
end
def retD : SR → Option D
  | .go (.ret d) _ _ => some d
  | _ => none
def nxD : SR → Option Unit
  | .go .nx _ _ => some ()
  | _ => none
def retB : SR → Option (D × List D)
  | .go (.ret d) _ (.lst ys :: _) => some (d, ys)
  | _ => none
@[simp] theorem retD_ret {d : D} {sd : Sl} {st : Sto} : retD (.go (.ret d) sd st) = some d := id rfl
@[simp] theorem nxD_nx {sd : Sl} {st : Sto} : nxD (.go .nx sd st) = some () := id rfl
@[simp] theorem retB_ret {d : D} {sd : Sl} {ys : List D} {r : Sto} : retB (.go (.ret d) sd (.lst ys :: r)) = some (d, ys) := id rfl
theorem fn_ret {nl : Nat} {body : SS} {ds : List D} {d : D} (h : retD (body (ds.map some ++ List.replicate nl none) []) = some d) (hn : d.noH = true) : fnD nl body [] ds = .ok d [] := by
  unfold fnD
  cases q : body (ds.map some ++ List.replicate nl none) [] with
  | go fl sd st' =>
    rw [q] at h
    cases fl with
    | ret x =>
      cases h
      show (if (d.noH && ((st' : Sto).take 0).all _) = true then Res.ok d ((st' : Sto).take 0) else Res.stk) = _
      rw [hn]; rfl
    | nx => cases h
    | brk => cases h
    | cnt => cases h
  | ex c sd st' => rw [q] at h; cases h
  | stk => rw [q] at h; cases h
theorem fn_ret1 {nl : Nat} {body : SS} {ds xs ys : List D} {d : D} (h : retB (body (ds.map some ++ List.replicate nl none) [.lst xs]) = some (d, ys)) (hn : d.noH = true) (hy : D.noHs ys = true) : fnD nl body [.lst xs] ds = .ok d [.lst ys] := by
  unfold fnD
  cases q : body (ds.map some ++ List.replicate nl none) [.lst xs] with
  | go fl sd st' =>
    rw [q] at h
    cases fl with
    | ret x =>
      cases st' with
      | nil => cases h
      | cons c r =>
        cases c with
        | dead => cases h
        | ob j c fs => cases h
        | lst zs =>
          cases h
          show (if (d.noH && ((Cell.lst ys :: r).take 1).all _) = true then Res.ok d ((Cell.lst ys :: r).take 1) else Res.stk) = _
          show (if (d.noH && (D.noHs ys && true)) = true then Res.ok d [.lst ys] else Res.stk) = _
          rw [hn, hy]; rfl
    | nx => cases h
    | brk => cases h
    | cnt => cases h
  | ex c sd st' => rw [q] at h; cases h
  | stk => rw [q] at h; cases h
section
variable {st st1 st2 st3 : Sto} {sd : Sl} {h : Nat} {xs : List D} {ns : List Int} {i : Int} {f fe fo fi : EE}
@[simp] theorem ca_zero {r : Sto} : cellAt (.lst xs :: r) 0 = some xs := id rfl
@[simp] theorem ca_one {c : Cell} {r : Sto} : cellAt (c :: .lst xs :: r) 1 = some xs := id rfl
@[simp] theorem ca_two {c c2 : Cell} {r : Sto} : cellAt (c :: c2 :: .lst xs :: r) 2 = some xs := id rfl
@[simp] theorem sq_hnd : seqOf st (.hnd h) = cellAt st h := id rfl
@[simp] theorem lh_hnd : lstH st (.hnd h) = cellAt st h := id rfl
@[simp] theorem lo_hnd : lstOf st (.hnd h) = cellAt st h := id rfl
@[simp] theorem ix_hnd : ixD st (.hnd h) (.int i) = (cellAt st h).bind fun xs => L2.atI xs i := id rfl
@[simp] theorem ln_hnd : lenD st [.hnd h] = (cellAt st h).map fun xs => .int xs.length := id rfl
@[simp] theorem tp_hnd : tupleD st [.hnd h] = (cellAt st h).map D.tup := id rfl
@[simp] theorem li_hnd : listD st [.hnd h] = cellAt st h := id rfl
theorem sv_put {y : D} {k : Int} {j : Nat} (e1 : fe sd st = .ok y st1) (e2 : fo sd st1 = .ok (.hnd h) st2) (e3 : fi sd st2 = .ok (.int k) st3) (hs : cellAt st3 h = some xs) (hk : ixN xs.length k = some j) : sPut fe fo fi sd st = .go .nx sd (st3.set h (.lst (xs.set j y))) := by
  unfold sPut
  rw [e1, rs_ok, e2, rs_ok, e3, rs_ok]
  show (match (cellAt st3 h).map (fun xs => (h, xs)), D.int k with
    | some (h, xs), .int k => match ixN xs.length k with
      | some j => SR.go .nx sd (st3.set h (.lst (xs.set j y)))
      | none => .stk
    | _, _ => .stk) = _
  rw [hs]
  show (match ixN xs.length k with
    | some j => SR.go .nx sd (st3.set h (.lst (xs.set j y)))
    | none => .stk) = _
  rw [hk]
end
end DS
namespace Gn
open PySem PySem.Spec PyProof.Rows L2 DS Pm
def dI : D → Int
  | .int i => i
  | _ => 0
end Gn
namespace Gn
open PySem PySem.Spec PyProof.Rows L2 DS Pm
def Lo (p : Int) (xs : List Int) : Prop := ∀ x ∈ xs, 0 ≤ x ∧ x < p
theorem Lo.at {p : Int} {xs : List Int} (h : Lo p xs) {i : Nat} (hi : i < xs.length) : 0 ≤ xs[i] ∧ xs[i] < p := h _ (List.getElem_mem hi)
theorem Lo.getD {p : Int} (hp : isP p) {xs : List Int} (h : Lo p xs) (i : Nat) : 0 ≤ xs.getD i 0 ∧ xs.getD i 0 < p := getD_lo hp.pos h i
theorem rg_at {lo c : Int} {n i : Nat} {x : D} (h : (rngL lo c n)[i]? = some x) : i < n ∧ x = .int (lo + i * c) := by
  unfold rngL at h
  rw [List.getElem?_map] at h
  by_cases hi : i < n
  · rw [List.getElem?_range hi] at h
    cases h
    exact ⟨hi, rfl⟩
  · rw [List.getElem?_eq_none (by simpa using hi)] at h
    cases h
theorem near_nat {n : Nat} (h : n ≤ 100000) : near (n : Int) = true := by
  have e : (2 : Int) ^ 62 = 4611686018427387904 := by decide
  unfold near
  rw [e, Bool.and_eq_true, decide_eq_true_eq, decide_eq_true_eq]
  constructor <;> omega
theorem rng1 {n : Nat} (h : n ≤ 100000) : rngOf [.int (n : Int)] = some (0, 1, n) := by
  show (if near n then some ((0 : Int), (1 : Int), (n : Int).toNat) else none) = _
  rw [if_pos (near_nat h), Int.toNat_natCast]
end Gn
namespace Pm
end Pm
namespace Gn
open PySem PySem.Spec PyProof.Rows L2 DS Pm
theorem dI_ints (xs : List Int) : (xs.map D.int).map dI = xs := by
  rw [List.map_map]
  exact List.map_id xs
def dP : D → List Int
  | .tup xs => xs.map dI
  | _ => []
@[simp] theorem dP_P (xs : List Int) : dP (P xs) = xs := dI_ints xs
end Gn
namespace Gn
open PySem PySem.Spec PyProof.Rows L2 DS Pm
abbrev B3 (a b c : Int) : List D := [.int a, .int b, .int c]
def IsBag (xs : List D) : Prop := ∃ a b c, xs = B3 a b c
theorem IsBag.noH {xs : List D} (h : IsBag xs) : D.noHs xs = true := by
  obtain ⟨a, b, c, rfl⟩ := h; rfl
theorem b_0 (a b c : Int) : L2.atI (B3 a b c) 0 = some (.int a) := id rfl
theorem b_1 (a b c : Int) : L2.atI (B3 a b c) 1 = some (.int b) := id rfl
theorem b_2 (a b c : Int) : L2.atI (B3 a b c) 2 = some (.int c) := id rfl
theorem md_lo {x p : Int} (h : 0 < p) : 0 ≤ x % p ∧ x % p < p := ⟨Int.emod_nonneg _ (by omega), Int.emod_lt_of_pos _ h⟩
theorem u_grab {xs : List D} {t : Int} (hb : IsBag xs) (h0 : 0 < t) (h1 : t.natAbs.log2 < 9000) : ∃ r ys, f__law_grab [.lst xs] [.hnd 0, .int t] = .ok (.int r) [.lst ys] ∧ IsBag ys ∧ 0 ≤ r ∧ r < t := by
  obtain ⟨a, b, c, rfl⟩ := hb
  by_cases ha : 0 < a
  · refine ⟨a % t, B3 (a / t) b c, fn_ret1 ?_ rfl rfl, ⟨_, _, _, rfl⟩, md_lo h0⟩
    show retB (sSeq (sIf _ (sSeq _ (sSeq (sPut (eOp (ints2 divI) (eOp ixD (eVar 0) (eC (.int 0))) (eVar 1)) (eVar 0) (eC (.int 0))) _)) _) _ [some (.hnd 0), some (.int t), none, none, none] [.lst (B3 a b c)]) = _
    have put : sPut (eOp (ints2 divI) (eOp ixD (eVar 0) (eC (.int 0))) (eVar 1)) (eVar 0) (eC (.int 0)) [some (.hnd 0), some (.int t), none, none, some (.int (a % t))] [.lst (B3 a b c)] = .go .nx [some (.hnd 0), some (.int t), none, none, some (.int (a % t))] [.lst (B3 (a / t) b c)] := by
      rw [sv_put (st1 := [.lst (B3 a b c)]) (st2 := [.lst (B3 a b c)]) (st3 := [.lst (B3 a b c)]) (h := 0) (k := 0) (j := 0) (y := .int (a / t)) (xs := B3 a b c) (by simp only [ev_op, ev_v0, ev_vs, ev_c, rb_ok, ix_hnd, ca_zero, Option.bind_some, b_0, ro_some, o_ints, o_div h0 h1]) rfl rfl rfl rfl]
      rfl
    simp only [sv_seq, sv_if, ev_test, ev_op, ev_v0, ev_vs, ev_c, rb_ok, ix_hnd, ca_zero, Option.bind_some, b_0, ro_some, o_ints, isB_bl, ha, decide_true, rs_ok, if_true, sv_set, ev_cb, ev_cons, ev_nil, i_int, o_mod h0, sk_nx, List.set_cons_succ, List.set_cons_zero, put, sv_ret, sk_ret, retB_ret]
  · refine ⟨((((((b + 67867979 * (c + 1)) % 2305843009213693951) * ((b + 67867979 * (c + 1)) % 2305843009213693951) + 101 * (c + 1)) % 2305843009213693921 * 4256233 + (b + 67867979 * (c + 1)) % 2305843009213693951) / 65537) % t), B3 a b (c + 1), fn_ret1 ?_ rfl rfl, ⟨_, _, _, rfl⟩, md_lo h0⟩
    show retB (sSeq (sIf _ _ _) (sSeq (sPut (eOp addD (eOp ixD (eVar 0) (eC (.int 2))) (eC (.int 1))) (eVar 0) (eC (.int 2))) _) [some (.hnd 0), some (.int t), none, none, none] [.lst (B3 a b c)]) = _
    have put : sPut (eOp addD (eOp ixD (eVar 0) (eC (.int 2))) (eC (.int 1))) (eVar 0) (eC (.int 2)) [some (.hnd 0), some (.int t), none, none, none] [.lst (B3 a b c)] = .go .nx [some (.hnd 0), some (.int t), none, none, none] [.lst (B3 a b (c + 1))] := by
      rw [sv_put (st1 := [.lst (B3 a b c)]) (st2 := [.lst (B3 a b c)]) (st3 := [.lst (B3 a b c)]) (h := 0) (k := 2) (j := 2) (y := .int (c + 1)) (xs := B3 a b c) (by simp only [ev_op, ev_v0, ev_vs, ev_c, rb_ok, ix_hnd, ca_zero, Option.bind_some, b_2, ro_some, o_add]) rfl rfl rfl rfl]
      rfl
    have s1 : small64 67867979 = true := by decide
    have s2 : small64 101 = true := by decide
    have s3 : small64 4256233 = true := by decide
    have m1 : (0 : Int) < 2305843009213693951 := by decide
    have m2 : (0 : Int) < 2305843009213693921 := by decide
    have sq : ∀ x : Int, small64 (x % 2305843009213693951) = true := fun x => by
      have := md_lo (x := x) m1
      exact small_of (by omega) (by omega)
    have d1 : ∀ x : Int, divI x 65537 = some (.int (x / 65537)) := fun x => o_div (by decide) (by decide)
    simp only [sv_seq, sv_if, ev_test, ev_op, ev_v0, ev_vs, ev_c, rb_ok, ix_hnd, ca_zero, Option.bind_some, b_0, ro_some, o_ints, isB_bl, ha, decide_false, rs_ok, if_neg Bool.false_ne_true, sv_next, sk_nx, put, sv_set, ev_cb, ev_cons, ev_nil, b_1, b_2, o_mul (.inl s1), o_mul (.inl s2), o_mul (.inr s3), o_mul (.inl (sq _)), o_add, i_int, o_mod m1, o_mod m2, d1, o_mod h0, List.set_cons_succ, List.set_cons_zero, sv_ret, retB_ret]
theorem c_grab {st : Sto} {h : Nat} {xs : List D} {t : Int} (hs : st[h]? = some (.lst xs)) (hb : IsBag xs) (h0 : 0 < t) (h1 : t.natAbs.log2 < 9000) : ∃ r ys, callBD 2 f__law_grab st [.hnd h, .int t] = .ok (.int r) (st.set h (.lst ys)) ∧ IsBag ys ∧ 0 ≤ r ∧ r < t := by
  obtain ⟨r, ys, e, hy, h2⟩ := u_grab hb h0 h1
  exact ⟨r, ys, cb_ok hs e rfl hb.noH rfl rfl hy.noH, hy, h2⟩
theorem noHs_mem {xs : List D} (h : D.noHs xs = true) {x : D} (hx : x ∈ xs) : x.noH = true := by
  obtain ⟨i, hi, rfl⟩ := List.mem_iff_getElem.mp hx
  exact noHs_get h (List.getElem?_eq_getElem hi)
theorem u_one_of {xs items : List D} (hb : IsBag xs) (hi : items ≠ []) (hl : items.length ≤ 1000) (hn : D.noHs items = true) : ∃ x ys, f__law_one_of [.lst xs] [.hnd 0, .lst items] = .ok x [.lst ys] ∧ IsBag ys ∧ x ∈ items := by
  have hl0 : 0 < items.length := List.length_pos_iff.mpr hi
  have hlog : ((items.length : Int)).natAbs.log2 < 9000 := by
    rw [Int.natAbs_natCast]
    have : items.length < 2 ^ 10 := by omega
    have := (Nat.log2_lt (by omega)).mpr this
    omega
  obtain ⟨r, ys, e, hy, h1, h2⟩ := c_grab (st := [.lst xs]) (h := 0) (t := (items.length : Int)) rfl hb (by omega) hlog
  have hr : r.toNat < items.length := by omega
  refine ⟨items[r.toNat], ys, fn_ret1 ?_ (noHs_mem hn (List.getElem_mem hr)) hy.noH, hy, List.getElem_mem hr⟩
  show retB (sRet _ [some (.hnd 0), some (.lst items)] [.lst xs]) = _
  simp only [sv_ret, ev_op, ev_v0, ev_vs, rb_ok, ev_calB, ev_cons, ev_cb, ev_nil, l_lenL, ro_some, List.append_nil, e, x_L, atI_lt hr (i := r) (by omega), rs_ok, List.set_cons_zero, retB_ret]
end Gn
namespace DS
open PySem PySem.Spec PyProof.Rows L2
structure PO (k : Nat) (d : D) (p : PyData) : Prop where
  py : pyD d = some p
  lay : PyData.canLay0 p = true
  dep : PyData.depth p ≤ k
  ref : PyData.eqv p p = true
section
variable {k j : Nat} {d e : D} {p r : PyData} {ds : List D} {ps : List PyData}
theorem PO.up (h : PO k d p) (hk : k ≤ j) : PO j d p := ⟨h.py, h.lay, Nat.le_trans h.dep hk, h.ref⟩
end
end DS
namespace DS
open PySem PySem.Spec PyProof.Rows L2
def mapA {α β : Type} (f : α → β) : List α → List β
  | [] => []
  | x :: r => f x :: mapA f r
def mapB {α β : Type} (f : α → β) : List α → List β
  | [] => []
  | x :: r => f x :: mapB f r
theorem all_eq {α β : Type} {f g : α → β} : ∀ {L : List α}, mapA f L = mapB g L → ∀ {x : α}, x ∈ L → f x = g x
  | [], _, x, hx => absurd hx (by simp)
  | y :: r, h, x, hx => by
    have h : f y :: mapA f r = g y :: mapB g r := h
    injection h with h1 h2
    rcases List.mem_cons.mp hx with e | e
    · rw [e]; exact h1
    · exact all_eq h2 e
section
variable {a b : SS} {sd sd1 : Sl} {st st1 : Sto} {r : SR} {d : D}
theorem sq_nx (h : a sd st = .go .nx sd1 st1) (h2 : b sd1 st1 = r) : sSeq a b sd st = r := by rw [sv_seq, h, sk_nx, h2]
end
section
variable {f g : EE} {t u : ET} {a b : SS} {sd : Sl} {st : Sto} {d : D}
theorem ret_of (h : f sd st = .ok d st) : sRet f sd st = .go (.ret d) sd st := by rw [sv_ret, h, rs_ok]
theorem andT (h : f sd st = .ok (.bl true) st) (h2 : g sd st = .ok (.bl true) st) : eAndV f g sd st = .ok (.bl true) st := by rw [ev_andV' h, if_pos rfl, h2]
end
def okItems (items : List D) : Bool := !items.isEmpty && decide (items.length ≤ 1000) && D.noHs items
theorem okItems_of {items : List D} (h : okItems items = true) : items ≠ [] ∧ items.length ≤ 1000 ∧ D.noHs items = true := by
  unfold okItems at h
  rw [Bool.and_eq_true, Bool.and_eq_true] at h
  refine ⟨fun e => ?_, of_decide_eq_true h.1.2, h.2⟩
  rw [e] at h
  cases h.1.1
theorem noHs_at {xs : List D} (h : D.noHs xs = true) : ∀ {x : D}, x ∈ xs → x.noH = true := by
  induction xs with
  | nil => intro x hx; cases hx
  | cons y r ih =>
    rw [noHs_cons, Bool.and_eq_true] at h
    intro x hx
    rcases List.mem_cons.mp hx with e | e
    · rw [e]; exact h.1
    · exact ih h.2 e
end DS
namespace Gn
open PySem PySem.Spec PyProof.Rows L2 DS Pm
/-- what a def that draws gives: one of the items, the bag being a bag again -/
def Draws (ff : FF) (args items : List D) : Prop := ∀ B : List D, IsBag B → ∃ d ys, ff [.lst B] (.hnd 0 :: args) = .ok d [.lst ys] ∧ IsBag ys ∧ d ∈ items
theorem Draws.one {items : List D} (h : okItems items = true) : Draws f__law_one_of [.lst items] items := fun B hb => by
  obtain ⟨h1, h2, h3⟩ := okItems_of h
  exact u_one_of hb h1 h2 h3
theorem Draws.call {ff : FF} {args items : List D} (hD : Draws ff args items) {B : List D} (hb : IsBag B) {n h : Nat} {st : Sto} (hs : st[h]? = some (.lst B)) (hl : args.length + 1 = n) (h1 : D.noHs args = true) (h2 : D.noHs items = true) : ∃ x ys, callBD n ff st (.hnd h :: args) = .ok x (st.set h (.lst ys)) ∧ IsBag ys ∧ x ∈ items := by
  obtain ⟨d, ys, e, hy, hd⟩ := hD B hb
  exact ⟨d, ys, cb_ok hs e (by simpa using hl) hb.noH h1 (noHs_at h2 hd) hy.noH, hy, hd⟩
theorem Draws.evH {ff : FF} {args items : List D} (hD : Draws ff args items) {B : List D} (hb : IsBag B) {n h : Nat} {st : Sto} {sd : Sl} {fa : EA} (hs : st[h]? = some (.lst B)) (hfa : fa sd st = .ok (.hnd h :: args) st) (hl : args.length + 1 = n) (h1 : D.noHs args = true) (h2 : D.noHs items = true) : ∃ x ys, eCalB n ff [] fa sd st = .ok x (st.set h (.lst ys)) ∧ IsBag ys ∧ x ∈ items := by
  obtain ⟨x, ys, e, hy, hx⟩ := hD.call hb (n := n) hs hl h1 h2
  refine ⟨x, ys, ?_, hy, hx⟩
  rw [ev_calB, hfa, rb_ok, List.append_nil]
  exact e
/-- the body's end gives the def's -/
theorem Draws.of {nl : Nat} {body : SS} {args items : List D} (h : ∀ B, IsBag B → ∃ d ys sd r, body ((.hnd 0 :: args).map some ++ List.replicate nl none) [.lst B] = .go (.ret d) sd (.lst ys :: r) ∧ IsBag ys ∧ d ∈ items) (h2 : D.noHs items = true) : Draws (fnD nl body) args items := fun B hb => by
  obtain ⟨d, ys, sd, r, e, hy, hd⟩ := h B hb
  exact ⟨d, ys, fn_ret1 (by rw [e]; rfl) (noHs_at h2 hd) hy.noH, hy, hd⟩
theorem pow_59 : powI 10 59 = some (.int 100000000000000000000000000000000000000000000000000000000000) := by kernel_rfl
theorem pow_60 : powI 10 60 = some (.int 1000000000000000000000000000000000000000000000000000000000000) := by kernel_rfl
theorem pow_17 : powI 10 17 = some (.int 100000000000000000) := by kernel_rfl
theorem mul_big : ∀ st : Sto, mulD st (.int 100000000000000000000000000000000000000000000000000000000000) (.int 1000000000000000000000000000000000000000000000000000000000000) = some (.int 100000000000000000000000000000000000000000000000000000000000000000000000000000000000000000000000000000000000000000000000) := fun st => by
  show (mulI _ _).or _ = _
  have : mulI 100000000000000000000000000000000000000000000000000000000000 1000000000000000000000000000000000000000000000000000000000000 = some (.int 100000000000000000000000000000000000000000000000000000000000000000000000000000000000000000000000000000000000000000000000) := by kernel_rfl
  rw [this]; rfl
def retL : SR → Option (List D)
  | .go (.ret (.hnd k)) _ st => cellAt st k
  | _ => none
theorem fnL_ret {nl : Nat} {body : SS} {ds xs : List D} (h : retL (body (ds.map some ++ List.replicate nl none) []) = some xs) (hn : D.noHs xs = true) : fnL nl body [] ds = .ok xs [] := by
  unfold fnL
  cases q : body (ds.map some ++ List.replicate nl none) [] with
  | go fl sd st' =>
    rw [q] at h
    cases fl with
    | ret d =>
      cases d with
      | hnd k =>
        show finL 0 k st' = _
        unfold finL
        have h : cellAt st' k = some xs := h
        rw [h]
        show (if decide (0 ≤ k) && (D.noHs xs && allNo 0 ((st' : Sto).take 0)) then Res.ok xs ((st' : Sto).take 0) else Res.stk) = _
        rw [hn, decide_eq_true (Nat.zero_le k)]
        rfl
      | _ => cases h
    | nx => cases h
    | brk => cases h
    | cnt => cases h
  | ex c sd st' => rw [q] at h; cases h
  | stk => rw [q] at h; cases h
theorem cl_ok {n : Nat} {ff : FL} {ds xs : List D} (h : ff [] ds = .ok xs []) (hl : ds.length = n) (hn : D.noHs ds = true) (st : Sto) : callLD n ff st ds = .ok xs st := by
  unfold callLD
  rw [if_pos hl, if_pos hn, h]
  rfl
theorem c_bag {ns : List Int} {k : Nat} (st : Sto) : ∃ xs, callLD 2 f__law_bag st [.scr (ns.map D.int), .int k] = .ok xs st ∧ IsBag xs := by
  have s83 : small64 83 = true := by decide
  have s127 : small64 127 = true := by decide
  have s1009 : small64 1009 = true := by decide
  have s47 : small64 47 = true := by decide
  have m0 : (0 : Int) < 100000000000000000000000000000000000000000000000000000000000000000000000000000000000000000000000000000000000000000000000 := by decide
  have m1 : (0 : Int) < 1152921504606846883 := by decide
  have m2 : (0 : Int) < 2305843009213693951 := by decide
  have l3 : (3 : Nat) ≤ lineN := by decide
  have cell : ∃ c : Int, eIf (eTest (eOp (ints2 fun i j => some (.bl (decide (i < j)))) (eVar 1) (eCB lenD (aCons (eVar 0) aNil)))) (eOp ixD (eVar 0) (eVar 1)) (eOp addD (eOp mulD (eC (.int 127)) (eVar 1)) (eC (.int 61))) [some (.scr (ns.map D.int)), some (.int k), none, none, none] [] = .ok (.int c) [] := by
    by_cases h : k < ns.length
    · have ha : L2.atI (ns.map D.int) (k : Int) = some (.int ns[k]) := by rw [atI_map, atI_lt h rfl]; rfl
      have hk : (k : Int) < (ns.length : Int) := by omega
      exact ⟨ns[k], by simp only [ev_if, ev_test, ev_op, ev_cb, ev_cons, ev_v0, ev_vs, ev_nil, rb_ok, l_lenS, List.length_map, ro_some, o_ints, hk, decide_true, isB_bl, if_true, x_S, ha]⟩
    · have hk : ¬ (k : Int) < (ns.length : Int) := by omega
      exact ⟨127 * k + 61, by simp only [ev_if, ev_test, ev_op, ev_cb, ev_cons, ev_v0, ev_vs, ev_nil, ev_c, rb_ok, l_lenS, List.length_map, ro_some, o_ints, hk, decide_false, isB_bl, if_neg Bool.false_ne_true, o_mul (.inl s127), o_add]⟩
  obtain ⟨c, hc⟩ := cell
  have ab : ∀ st : Sto, absD st [.int c] = some (.int (if c < 0 then -c else c)) := fun _ => rfl
  have mx : ∀ (st : Sto) (x : Int), ∃ y, max2D st [.int 0, .int x] = some (.int y) := fun st x => ⟨_, rfl⟩
  obtain ⟨y, hy⟩ := mx [] ((if c < 0 then -c else c) % 100000000000000000000000000000000000000000000000000000000000000000000000000000000000000000000000000000000000000000000000 - 100000000000000000)
  refine ⟨_, cl_ok (fnL_ret (xs := B3 y (((if c < 0 then -c else c) % 100000000000000000000000000000000000000000000000000000000000000000000000000000000000000000000000000000000000000000000000 % 1152921504606846883 * 83 + 1009 * k + 47 * (if decide (c < 0) = true then 1 else 0) + 29) % 2305843009213693951) 0) ?_ rfl) rfl (by simp) st, ⟨_, _, _, rfl⟩⟩
  show retL (sSeq (sSet 2 _) (sSeq _ (sSeq _ _)) [some (.scr (ns.map D.int)), some (.int k), none, none, none] []) = _
  simp only [sv_seq, sv_set, hc, rs_ok, sk_nx, List.set_cons_zero, List.set_cons_succ, ev_op, ev_cb, ev_cons, ev_v0, ev_vs, ev_nil, ev_c, rb_ok, ab, ro_some, i_int, i_bl, o_ints, pow_59, pow_60, mul_big, o_mod m0, o_mod m1, o_mod m2, o_mul (.inr s83), o_mul (.inl s1009), o_mul (.inl s47), o_add, sv_ret, ev_hnd, ev_lst, pow_17, hy, List.length_cons, List.length_nil, Nat.zero_add, Nat.reduceAdd, if_pos l3, List.nil_append]
  rfl
/-- the bag of a spot, put to a name -/
theorem set_bag {ns : List Int} {k j sp : Nat} {sd : Sl} {st : Sto} (h0 : eVar 0 sd st = .ok (.scr (ns.map D.int)) st) (h1 : eVar sp sd st = .ok (.int (k : Nat)) st) : ∃ B, IsBag B ∧ sSet j (eHnd (fCal 2 f__law_bag [] (aCons (eVar 0) (aCons (eVar sp) aNil)))) sd st = .go .nx (sd.set j (some (.hnd st.length))) (st ++ [.lst B]) := by
  obtain ⟨B, cb, hB⟩ := c_bag (ns := ns) (k := k) st
  refine ⟨B, hB, ?_⟩
  simp only [sv_set, ev_hnd, ev_fcal, ev_cons, h0, h1, ev_nil, rb_ok, List.append_nil, cb, rs_ok]
/-- the walk over the spots of the script -/
theorem for_spots {K : Int} (hK : 1 ≤ K) (hK2 : K ≤ 10) {ns : List Int} {b : SS} {r : Sl} {j : Nat} (Inv : Sl → Prop) (h0 : Inv (some (.scr (ns.map D.int)) :: r))
    (step : ∀ (i : Nat) (sd : Sl) (st : Sto), (i : Int) < K → st.length = i → Inv sd → ∃ sd2 st2, b (sd.set j (some (.int (i : Nat)))) st = .go .nx sd2 st2 ∧ Inv sd2 ∧ st2.length = i + 1) :
    ∃ (N : Nat) (sd2 : Sl) (st2 : Sto), 1 ≤ N ∧ (N : Int) ≤ K ∧ sFor (iRngN 1 (aCons (eCB max2D (aCons (eC (.int 1)) (aCons (eCB min2D (aCons (eC (.int K)) (aCons (eCB lenD (aCons (eVar 0) aNil)) aNil))) aNil))) aNil)) (gNameD j) b (some (.scr (ns.map D.int)) :: r) [] = .go .nx sd2 st2 ∧ Inv sd2 ∧ st2.length = N := by
  obtain ⟨N, hN, h1, h2⟩ : ∃ N : Nat, (if (if (ns.length : Int) < K then (ns.length : Int) else K) > 1 then (if (ns.length : Int) < K then (ns.length : Int) else K) else 1) = (N : Int) ∧ 1 ≤ N ∧ (N : Int) ≤ K := by
    by_cases h3 : (ns.length : Int) < K
    · rw [if_pos h3]
      by_cases h1 : (ns.length : Int) > 1
      · rw [if_pos h1]; exact ⟨ns.length, rfl, by omega, by omega⟩
      · rw [if_neg h1]; exact ⟨1, rfl, by omega, by omega⟩
    · rw [if_neg h3]
      by_cases h1 : K > 1
      · rw [if_pos h1]; exact ⟨K.toNat, by omega, by omega, by omega⟩
      · rw [if_neg h1]; exact ⟨1, rfl, by omega, by omega⟩
  have hm : max2D [] [.int 1, .int (if (ns.length : Int) < K then (ns.length : Int) else K)] = some (.int N) := by
    show some (D.int _) = _
    exact congrArg (fun z => some (D.int z)) hN
  have hmin : min2D [] [.int K, .int (ns.length : Int)] = some (.int (if (ns.length : Int) < K then (ns.length : Int) else K)) := rfl
  have hw := wk_rng (fs := aCons (eCB max2D (aCons (eC (.int 1)) (aCons (eCB min2D (aCons (eC (.int K)) (aCons (eCB lenD (aCons (eVar 0) aNil)) aNil))) aNil))) aNil) (sd := some (.scr (ns.map D.int)) :: r) (st := []) (st' := []) (k := 1) (ds := [.int (N : Int)]) (by
    simp only [ev_cons, ev_cb, ev_c, ev_v0, ev_nil, rb_ok, l_lenS, List.length_map, ro_some, hmin, hm]) rfl (rng1 (n := N) (by omega))
  obtain ⟨sd2, st2, e, h3, h4⟩ := for_run (fg := gNameD j) (b := b) hw (fun i sd st => Inv sd ∧ st.length = i) ⟨h0, rfl⟩ (by
    rintro i x sd st hx ⟨hI, hl⟩
    obtain ⟨hi, rfl⟩ := rg_at hx
    have e0 : (0 + (i : Int) * 1) = (i : Int) := by omega
    rw [e0]
    obtain ⟨sd2, st2, e, h5, h6⟩ := step i sd st (by omega) hl hI
    exact ⟨_, _, sd2, st2, gv_name, e, h5, h6⟩)
  refine ⟨N, sd2, st2, h1, h2, e, h3, ?_⟩
  rw [h4]; simp [rngL]
theorem len1 {st : Sto} (h : st.length = 1) : ∃ a, st = [a] := by
  match st, h with
  | [a], _ => exact ⟨a, rfl⟩
theorem len2 {st : Sto} (h : st.length = 2) : ∃ a b, st = [a, b] := by
  match st, h with
  | [a, b], _ => exact ⟨a, b, rfl⟩
theorem len3 {st : Sto} (h : st.length = 3) : ∃ a b c, st = [a, b, c] := by
  match st, h with
  | [a, b, c], _ => exact ⟨a, b, c, rfl⟩
theorem len4 {st : Sto} (h : st.length = 4) : ∃ a b c d, st = [a, b, c, d] := by
  match st, h with
  | [a, b, c, d], _ => exact ⟨a, b, c, d, rfl⟩
def badT : List D := [.bl true]
end Gn
namespace DS
open PySem PySem.Spec PyProof.Rows L2
theorem lcN_none {it : ItD} {fg : D → SS} {ft : ET} {fe : EE} {L : List D} {sd : Sl} {st : Sto} (hit : ∀ i, it st i = some L[i]?) (h : ∀ (j : Nat) d, L[j]? = some d → ∃ sd1, fg d sd st = .go .nx sd1 st ∧ ft sd1 st = .ok false st) :
    ∀ (n i : Nat), i ≤ L.length → L.length < n + i → lcN it fg ft fe n i sd st = .ok [] st
  | 0, i, h1, h2 => by omega
  | n + 1, i, h1, h2 => by
    show (match it st i with
      | none => Res.stk
      | some none => Res.ok [] st
      | some (some d) => match fg d sd st with
        | .go .nx sd1 st1 => (ft sd1 st1).noex.bind fun x st2 => if x = true then (fe sd1 st2).noex.bind fun y st3 => (lcN it fg ft fe n (i + 1) sd st3).bind fun ys st4 => .ok (y :: ys) st4 else lcN it fg ft fe n (i + 1) sd st2
        | _ => .stk) = _
    rw [hit i]
    cases e : L[i]? with
    | none => rfl
    | some d =>
      obtain ⟨sd1, e1, e2⟩ := h i d e
      have hi : i < L.length := (List.getElem?_eq_some_iff.mp e).1
      show (match fg d sd st with
        | .go .nx sd1 st1 => (ft sd1 st1).noex.bind fun x st2 => if x = true then (fe sd1 st2).noex.bind fun y st3 => (lcN it fg ft fe n (i + 1) sd st3).bind fun ys st4 => .ok (y :: ys) st4 else lcN it fg ft fe n (i + 1) sd st2
        | _ => .stk) = _
      rw [e1]
      show ((ft sd1 st).noex.bind fun x st2 => if x = true then (fe sd1 st2).noex.bind fun y st3 => (lcN it fg ft fe n (i + 1) sd st3).bind fun ys st4 => .ok (y :: ys) st4 else lcN it fg ft fe n (i + 1) sd st2) = _
      rw [e2]
      show lcN it fg ft fe n (i + 1) sd st = _
      exact lcN_none hit h n (i + 1) hi (by omega)
/-- one call's test: what it gives is what is due -/
def tDue (tab : STab) (hs : List Hnd) (dflt : D) (f : EE) (d : D) : ET := eTest (eOp neD (eOp ixD (eMet tab hs dflt f) (eC (.int 1))) (eC d))
theorem due_mv {tab : STab} {hs : List Hnd} {dflt d : D} {f : EE} {fb : List EE} {jc jd j : Nat} {sd sdC : Sl} {st : Sto} (hc : sd[jc]? = some (some (.lam j))) (hd : sd[jd]? = some (some d)) (hf : fb[j]? = some f) (hst : stoF st = true) (hC : cleanF (wipeD sd [jc, jd]) = sdC)
    (h : tDue tab hs dflt f d sdC st = .ok false st) : (eTest (eOp neD (eOp ixD (eMv jc [jc, jd] tab hs dflt fb) (eC (.int 1))) (eVar jd)) : ET) sd st = .ok false st := by
  have e1 : eMv jc [jc, jd] tab hs dflt fb sd st = (metD tab hs dflt (f sdC st)).noex := by
    unfold eMv
    rw [hc]
    show (match fb[j]? with
      | some f => if stoF st = true then (metD tab hs dflt (f (cleanF (wipeD sd [jc, jd])) st)).noex else .stk
      | none => .stk) = _
    rw [hf]
    show (if stoF st = true then (metD tab hs dflt (f (cleanF (wipeD sd [jc, jd])) st)).noex else .stk) = _
    rw [if_pos hst, hC]
  have e2 : ∀ st', eVar jd sd st' = .ok d st' := fun st' => by
    unfold eVar
    rw [hd]
  unfold tDue eTest eOp eMet at h
  unfold eTest eOp
  try dsimp only at h ⊢
  rw [e1]
  cases em : metD tab hs dflt (f sdC st) with
  | stk => rw [em] at h; cases h
  | ex a b => rw [em] at h; cases h
  | ok x st2 =>
    rw [em] at h
    rw [← h]
    simp only [Res.noex, Res.bind, e2, eC]
theorem wipe2 {sd : Sl} {a b : D} {jc jd : Nat} : wipeD (((wipeD sd [jc, jd]).set jc (some a)).set jd (some b)) [jc, jd] = wipeD sd [jc, jd] := by
  apply List.ext_getElem?
  intro n
  simp only [wipeD, List.getElem?_set]
  by_cases h1 : jc = n <;> by_cases h2 : jd = n <;> simp [h1, h2, List.length_set]
/-- all are as they are due: none is told -/
theorem lams_none {i jc jd : Nat} {tab : STab} {hs : List Hnd} {dflt : D} {fb : List EE} {sd sdC : Sl} {st : Sto} {ds : List D} (hi : sd[i]? = some (some (.lst (lamItems 0 ds)))) (hlt : ds.length < lineN) (hl : ds.length = fb.length) (hne : jc ≠ jd) (hjc : jc < sd.length) (hjd : jd < sd.length) (hst : stoF st = true)
    (hC : cleanF (wipeD sd [jc, jd]) = sdC) (h : ∀ (j : Nat) f d, fb[j]? = some f → ds[j]? = some d → tDue tab hs dflt f d sdC st = .ok false st) : fLams i jc jd tab hs dflt fb sd st = .ok [] st := by
  have ev : eVar i sd st = .ok (.lst (lamItems 0 ds)) st := by
    unfold eVar
    rw [hi]
  have hw : ∀ n, n < sd.length → n < (wipeD sd [jc, jd]).length := fun n hn => by simpa [wipeD] using hn
  have it : iSeq (eVar i) sd st = .ok (fun _ n => some (lamItems 0 ds)[n]?, (lamItems 0 ds).length) st := by
    unfold iSeq
    try dsimp only
    rw [ev]
    rfl
  unfold fLams fLc
  try dsimp only
  rw [it]
  show (if (lamItems 0 ds).length < lineN then lcN (fun _ n => some (lamItems 0 ds)[n]?) _ _ _ ((lamItems 0 ds).length + 1) 0 (wipeD sd [jc, jd]) st else .stk) = _
  rw [lamItems_len, if_pos hlt]
  refine lcN_none (L := lamItems 0 ds) (fun _ => rfl) (fun n y e => ?_) _ 0 (Nat.zero_le _) (by rw [lamItems_len]; omega)
  obtain ⟨d, e1, rfl⟩ := lamItems_get 0 ds n y e
  rw [Nat.zero_add]
  have hn : n < fb.length := by rw [← hl]; exact (List.getElem?_eq_some_iff.mp e1).1
  refine ⟨((wipeD sd [jc, jd]).set jc (some (.lam n))).set jd (some d), rfl, ?_⟩
  refine due_mv (j := n) (d := d) (f := fb[n]) ?_ ?_ (List.getElem?_eq_getElem hn) hst ?_ (h n fb[n] d (List.getElem?_eq_getElem hn) e1)
  · rw [List.getElem?_set_ne (Ne.symm hne), List.getElem?_set_self (hw jc hjc)]
  · rw [List.getElem?_set_self (by rw [List.length_set]; exact hw jd hjd)]
  · rw [wipe2]
    exact hC
/-- the dues one by one -/
def DuesAt (tab : STab) (hs : List Hnd) (dflt : D) (sdC : Sl) (st : Sto) : List EE → List D → Prop
  | [], [] => True
  | f :: fs, d :: ds => tDue tab hs dflt f d sdC st = .ok false st ∧ DuesAt tab hs dflt sdC st fs ds
  | _, _ => False
theorem dues_get {tab : STab} {hs : List Hnd} {dflt : D} {sdC : Sl} {st : Sto} : ∀ {fb : List EE} {ds : List D}, DuesAt tab hs dflt sdC st fb ds → ds.length = fb.length ∧ ∀ (j : Nat) f d, fb[j]? = some f → ds[j]? = some d → tDue tab hs dflt f d sdC st = .ok false st
  | [], [], _ => ⟨rfl, fun j f d e => by simp at e⟩
  | f :: fs, d :: ds, h => by
    obtain ⟨h1, h2⟩ := h
    obtain ⟨k1, k2⟩ := dues_get h2
    refine ⟨by simp [k1], fun j f' d' e1 e2 => ?_⟩
    cases j with
    | zero =>
      simp at e1 e2
      rw [← e1, ← e2]
      exact h1
    | succ j => exact k2 j f' d' (by simpa using e1) (by simpa using e2)
  | [], _ :: _, h => h.elim
  | _ :: _, [], h => h.elim
section
variable {i jc jd : Nat} {tab : STab} {hs : List Hnd} {dflt : D} {fb fds : List EE} {sd sdC : Sl} {st : Sto} {ds : List D}
theorem lams_in (hd : duesA fds sd st = .ok ds st) (hlt : ds.length < lineN) (hne : jc ≠ jd) (hii : i < sd.length) (hjc : jc < sd.length) (hjd : jd < sd.length) (hst : stoF st = true) (hC : cleanF (wipeD (sd.set i (some (.lst (lamItems 0 ds)))) [jc, jd]) = sdC) (h : DuesAt tab hs dflt sdC st fb ds) :
    fLams i jc jd tab hs dflt fb (sd.set i (some (.lst (lamItems 0 ds)))) st = .ok [] st := by
  obtain ⟨h1, h2⟩ := dues_get h
  exact lams_none (List.getElem?_set_self hii) hlt h1 hne (by rw [List.length_set]; exact hjc) (by rw [List.length_set]; exact hjd) hst hC h2
/-- calls = [..]; return [..] == [] -/
theorem lams_ret (hd : duesA fds sd st = .ok ds st) (hlt : ds.length < lineN) (hne : jc ≠ jd) (hii : i < sd.length) (hjc : jc < sd.length) (hjd : jd < sd.length) (hst : stoF st = true) (hC : cleanF (wipeD (sd.set i (some (.lst (lamItems 0 ds)))) [jc, jd]) = sdC) (h : DuesAt tab hs dflt sdC st fb ds) :
    sLams i fds (gRet (fLams i jc jd tab hs dflt fb)) sd st = .go (.ret (.bl true)) (sd.set i (some (.lst (lamItems 0 ds)))) st := by
  have e := lams_in hd hlt hne hii hjc hjd hst hC h
  unfold sLams
  rw [hd]
  show (if ds.length ≤ lineN then finS (gRet (fLams i jc jd tab hs dflt fb) (sd.set i (some (.lst (lamItems 0 ds)))) st) else .stk) = _
  rw [if_pos (Nat.le_of_lt hlt)]
  unfold gRet sRet eOp eFz
  try dsimp only
  rw [e]
  show finS (.go (.ret (.bl true)) (sd.set i (some (.lst (lamItems 0 ds)))) st) = _
  show (if (stoF st && D.noF (.bl true)) = true then SR.go (.ret (.bl true)) _ st else .stk) = _
  rw [hst]
  rfl
theorem sq_rt {f g : SS} {d : D} {sd1 : Sl} {st1 : Sto} (h : f sd st = .go (.ret d) sd1 st1) : sSeq f g sd st = .go (.ret d) sd1 st1 := by
  unfold sSeq
  rw [h]
/-- slots without what holds lambdas -/
def ClAs : Sl → Sl → Prop
  | [], [] => True
  | none :: r, none :: r' => ClAs r r'
  | some d :: r, some d' :: r' => (d = d' ∧ d.noF = true) ∧ ClAs r r'
  | some d :: r, none :: r' => d.noF = false ∧ ClAs r r'
  | _, _ => False
theorem clean_of : ∀ {sd sd' : Sl}, ClAs sd sd' → cleanF sd = sd'
  | [], [], _ => rfl
  | none :: r, none :: r', h => by
    show none :: cleanF r = _
    rw [clean_of (show ClAs r r' from h)]
  | some d :: r, some d' :: r', h => by
    obtain ⟨⟨rfl, h1⟩, h2⟩ := h
    show (if d.noF = true then some d else none) :: cleanF r = _
    rw [if_pos h1, clean_of h2]
  | some d :: r, none :: r', h => by
    obtain ⟨h1, h2⟩ := h
    show (if d.noF = true then some d else none) :: cleanF r = _
    rw [h1, clean_of h2]
    rfl
  | [], _ :: _, h => h.elim
  | none :: _, [], h => h.elim
  | some _ :: _, [], h => h.elim
  | none :: _, some _ :: _, h => h.elim
end
end DS
namespace Gn
open PySem PySem.Spec PyProof.Rows L2 DS Pm
def fnP (p : D) (t b : List Int) : D := .obj "Function" [("own_bottom", .tup (b.map D.int)), ("own_prime", p), ("own_top", .tup (t.map D.int))]
def opP (p : D) (es : List D) : D := .obj "Operator" [("own_entries", .tup es), ("own_prime", p)]
def zerD (p : D) : D := fnP p [] [1]
def uniD (p : D) : D := fnP p [1] [1]
def slD (p : D) (k : Nat) : D := opP p (List.replicate k (zerD p) ++ [uniD p])
def big : Int := 1000000000000000000000000000000000000000000000000000000000000
def one : D := uniD (.int 3)
def two : D := uniD (.int 2)
def zer : D := zerD (.int 3)
def ln : D := slD (.int 3) 1
def ln2 : D := slD (.int 2) 1
def rowT (n : Nat) (d : D) : D := .tup (List.replicate n d)
def badsL : List D := [.non, .int 0, .int 1, .int 4, .int 11, .int (-3), .bl true, .str "3", .tup [.int 3], .int big]
def entsL : List D := [.non, .int 1, .lst [one], one, .tup [.int 1], .tup [one, .non], .tup [zer], .tup [one, zer], rowT 10 one, .str "1", .dic [], .tup [one, .tup [.int 1]]]
def numsL : List D := [.non, .int (-1), .int 9, .bl true, .str "1", .tup [.int 1], .int big]
def oddsL : List D := [.non, .int 3, .str "x", .tup [.int 1], ln, .lst [one]]
def odds2L : List D := [.non, .int 3, .str "x", .tup [.int 1], ln, .lst [one], .dic []]
def nonesL : List D := [.non, .int 0, .str "D", .tup [one], one, .lst [ln], .dic []]
def highL : List D := [.non, .int (-1), .int 1001, .bl true, .str "1", .tup [.int 1], .int big]
def numS (m : D) : D := match (pyD m).bind showD with
  | some t => .str (("number " : Str) ++ t)
  | none => .non
end Gn
namespace Gn
open PySem PySem.Spec PyProof.Rows L2 DS Pm
theorem fa__law_made_right_1 {B : List D} : ((aCons (eVar 0) (aCons (eFz (fLst (aCons (eC .non) (aCons (eC (.int 0)) (aCons (eC (.int 1)) (aCons (eC (.int 4)) (aCons (eC (.int 11)) (aCons (eUn negD (eC (.int 3))) (aCons (eC (.bl true)) (aCons (eC (.str "3")) (aCons (eTup (aCons (eC (.int 3)) aNil)) (aCons (eOBT [("Operator", f_Operator___pow__)] (ints2 powI) (eC (.int 10)) (eC (.int 60))) aNil)))))))))))) aNil)) : EA) [(some (.hnd 0)), none, none, none, none, none, none, none, none, none, none, none] [.lst B] = Res.ok [.hnd 0, .lst badsL] [.lst B] := by
  kernel_rfl
theorem it__law_made_right_1 : okItems badsL = true := by
  kernel_rfl
theorem st__law_made_right_1h0 {B : List D} {B1 : List D} {G0 : EE} : ((sSet 1 G0) : SS) [(some (.hnd 0)), none, none, none, none, none, none, none, none, none, none, none] [.lst B] = ((sSet 1 (fun _ _ => G0 [(some (.hnd 0)), none, none, none, none, none, none, none, none, none, none, none] [.lst B])) : SS) [(some (.hnd 0)), none, none, none, none, none, none, none, none, none, none, none] [.lst B] := by
  kernel_rfl
theorem st__law_made_right_1e {B : List D} {B1 : List D} {w : D} : ((sSet 1 (fun _ _ => Res.ok w [.lst B1])) : SS) [(some (.hnd 0)), none, none, none, none, none, none, none, none, none, none, none] [.lst B] = SR.go .nx [(some (.hnd 0)), (some w), none, none, none, none, none, none, none, none, none, none] [.lst B1] := by
  kernel_rfl
theorem st__law_made_right_1 {B : List D} {B1 : List D} {w : D} (e1 : (eCalB 2 f__law_one_of [] (aCons (eVar 0) (aCons (eFz (fLst (aCons (eC .non) (aCons (eC (.int 0)) (aCons (eC (.int 1)) (aCons (eC (.int 4)) (aCons (eC (.int 11)) (aCons (eUn negD (eC (.int 3))) (aCons (eC (.bl true)) (aCons (eC (.str "3")) (aCons (eTup (aCons (eC (.int 3)) aNil)) (aCons (eOBT [("Operator", f_Operator___pow__)] (ints2 powI) (eC (.int 10)) (eC (.int 60))) aNil)))))))))))) aNil))) [(some (.hnd 0)), none, none, none, none, none, none, none, none, none, none, none] [.lst B] = .ok w [.lst B1]) : ((sSet 1 (eCalB 2 f__law_one_of [] (aCons (eVar 0) (aCons (eFz (fLst (aCons (eC .non) (aCons (eC (.int 0)) (aCons (eC (.int 1)) (aCons (eC (.int 4)) (aCons (eC (.int 11)) (aCons (eUn negD (eC (.int 3))) (aCons (eC (.bl true)) (aCons (eC (.str "3")) (aCons (eTup (aCons (eC (.int 3)) aNil)) (aCons (eOBT [("Operator", f_Operator___pow__)] (ints2 powI) (eC (.int 10)) (eC (.int 60))) aNil)))))))))))) aNil)))) : SS) [(some (.hnd 0)), none, none, none, none, none, none, none, none, none, none, none] [.lst B] = SR.go .nx [(some (.hnd 0)), (some w), none, none, none, none, none, none, none, none, none, none] [.lst B1] := by
  have r0 := st__law_made_right_1h0 (G0 := (eCalB 2 f__law_one_of [] (aCons (eVar 0) (aCons (eFz (fLst (aCons (eC .non) (aCons (eC (.int 0)) (aCons (eC (.int 1)) (aCons (eC (.int 4)) (aCons (eC (.int 11)) (aCons (eUn negD (eC (.int 3))) (aCons (eC (.bl true)) (aCons (eC (.str "3")) (aCons (eTup (aCons (eC (.int 3)) aNil)) (aCons (eOBT [("Operator", f_Operator___pow__)] (ints2 powI) (eC (.int 10)) (eC (.int 60))) aNil)))))))))))) aNil)))) (B := B) (B1 := B1)
  rw [e1] at r0
  exact (r0).trans ((st__law_made_right_1e))
theorem st__law_made_right_2 {o1 : Option D} {B : List D} : ((sAsg (eTup (aCons (eMeC [("Function", f_Function_number)] 3 (eC (.glo "Function")) (aCons (eC (.int 3)) (aCons (eC (.int 1)) aNil))) (aCons (eMeC [("Function", f_Function_number)] 3 (eC (.glo "Function")) (aCons (eC (.int 3)) (aCons (eC (.int 0)) aNil))) (aCons (eMeC [("Function", f_Function_number)] 3 (eC (.glo "Function")) (aCons (eC (.int 2)) (aCons (eC (.int 1)) aNil))) aNil)))) (gTupD (gNameD 7 :: gNameD 8 :: gNameD 9 :: []))) : SS) [(some (.hnd 0)), o1, none, none, none, none, none, none, none, none, none, none] [.lst B] = SR.go .nx [(some (.hnd 0)), o1, none, none, none, none, none, (some one), (some zer), (some two), none, none] [.lst B] := by
  kernel_rfl
theorem st__law_made_right_3 {o1 : Option D} {o9 : Option D} {B : List D} : ((sSet 2 (eFz (fLst (aCons (eC .non) (aCons (eC (.int 1)) (aCons (eFz (fLst (aCons (eVar 7) aNil))) (aCons (eVar 7) (aCons (eTup (aCons (eC (.int 1)) aNil)) (aCons (eTup (aCons (eVar 7) (aCons (eC .non) aNil))) (aCons (eTup (aCons (eVar 8) aNil)) (aCons (eTup (aCons (eVar 7) (aCons (eVar 8) aNil))) (aCons (eOB [("Operator", f_Operator___mul__)] mulD (eTup (aCons (eVar 7) aNil)) (eC (.int 10))) (aCons (eC (.str "1")) (aCons eDict0 (aCons (eTup (aCons (eVar 7) (aCons (eTup (aCons (eC (.int 1)) aNil)) aNil))) aNil))))))))))))))) : SS) [(some (.hnd 0)), o1, none, none, none, none, none, (some one), (some zer), o9, none, none] [.lst B] = SR.go .nx [(some (.hnd 0)), o1, (some (.lst entsL)), none, none, none, none, (some one), (some zer), o9, none, none] [.lst B] := by
  kernel_rfl
theorem fa__law_made_right_2 {o1 : Option D} {o7 : Option D} {o8 : Option D} {o9 : Option D} {B : List D} : ((aCons (eVar 0) (aCons (eVar 2) aNil)) : EA) [(some (.hnd 0)), o1, (some (.lst entsL)), none, none, none, none, o7, o8, o9, none, none] [.lst B] = Res.ok [.hnd 0, .lst entsL] [.lst B] := by
  kernel_rfl
theorem it__law_made_right_2 : okItems entsL = true := by
  kernel_rfl
theorem st__law_made_right_4h0 {o1 : Option D} {o2 : Option D} {o7 : Option D} {o8 : Option D} {o9 : Option D} {B : List D} {B2 : List D} {G0 : EE} : ((sSet 3 G0) : SS) [(some (.hnd 0)), o1, o2, none, none, none, none, o7, o8, o9, none, none] [.lst B] = ((sSet 3 (fun _ _ => G0 [(some (.hnd 0)), o1, o2, none, none, none, none, o7, o8, o9, none, none] [.lst B])) : SS) [(some (.hnd 0)), o1, o2, none, none, none, none, o7, o8, o9, none, none] [.lst B] := by
  kernel_rfl
theorem st__law_made_right_4e {o1 : Option D} {o2 : Option D} {o7 : Option D} {o8 : Option D} {o9 : Option D} {B : List D} {B2 : List D} {e : D} : ((sSet 3 (fun _ _ => Res.ok e [.lst B2])) : SS) [(some (.hnd 0)), o1, o2, none, none, none, none, o7, o8, o9, none, none] [.lst B] = SR.go .nx [(some (.hnd 0)), o1, o2, (some e), none, none, none, o7, o8, o9, none, none] [.lst B2] := by
  kernel_rfl
theorem st__law_made_right_4 {o1 : Option D} {o2 : Option D} {o7 : Option D} {o8 : Option D} {o9 : Option D} {B : List D} {B2 : List D} {e : D} (e2 : (eCalB 2 f__law_one_of [] (aCons (eVar 0) (aCons (eVar 2) aNil))) [(some (.hnd 0)), o1, o2, none, none, none, none, o7, o8, o9, none, none] [.lst B] = .ok e [.lst B2]) : ((sSet 3 (eCalB 2 f__law_one_of [] (aCons (eVar 0) (aCons (eVar 2) aNil)))) : SS) [(some (.hnd 0)), o1, o2, none, none, none, none, o7, o8, o9, none, none] [.lst B] = SR.go .nx [(some (.hnd 0)), o1, o2, (some e), none, none, none, o7, o8, o9, none, none] [.lst B2] := by
  have r0 := st__law_made_right_4h0 (G0 := (eCalB 2 f__law_one_of [] (aCons (eVar 0) (aCons (eVar 2) aNil)))) (o1 := o1) (o2 := o2) (o7 := o7) (o8 := o8) (o9 := o9) (B := B) (B2 := B2)
  rw [e2] at r0
  exact (r0).trans ((st__law_made_right_4e))
theorem fa__law_made_right_3 {o1 : Option D} {o2 : Option D} {o3 : Option D} {o7 : Option D} {o8 : Option D} {o9 : Option D} {B : List D} : ((aCons (eVar 0) (aCons (eFz (fLst (aCons (eC .non) (aCons (eUn negD (eC (.int 1))) (aCons (eC (.int 9)) (aCons (eC (.bl true)) (aCons (eC (.str "1")) (aCons (eTup (aCons (eC (.int 1)) aNil)) (aCons (eOBT [("Operator", f_Operator___pow__)] (ints2 powI) (eC (.int 10)) (eC (.int 60))) aNil))))))))) aNil)) : EA) [(some (.hnd 0)), o1, o2, o3, none, none, none, o7, o8, o9, none, none] [.lst B] = Res.ok [.hnd 0, .lst numsL] [.lst B] := by
  kernel_rfl
theorem it__law_made_right_3 : okItems numsL = true := by
  kernel_rfl
theorem st__law_made_right_5h0 {o1 : Option D} {o2 : Option D} {o3 : Option D} {o7 : Option D} {o8 : Option D} {o9 : Option D} {B : List D} {B3 : List D} {G0 : EE} : ((sSet 4 G0) : SS) [(some (.hnd 0)), o1, o2, o3, none, none, none, o7, o8, o9, none, none] [.lst B] = ((sSet 4 (fun _ _ => G0 [(some (.hnd 0)), o1, o2, o3, none, none, none, o7, o8, o9, none, none] [.lst B])) : SS) [(some (.hnd 0)), o1, o2, o3, none, none, none, o7, o8, o9, none, none] [.lst B] := by
  kernel_rfl
theorem st__law_made_right_5e {o1 : Option D} {o2 : Option D} {o3 : Option D} {o7 : Option D} {o8 : Option D} {o9 : Option D} {B : List D} {B3 : List D} {m : D} : ((sSet 4 (fun _ _ => Res.ok m [.lst B3])) : SS) [(some (.hnd 0)), o1, o2, o3, none, none, none, o7, o8, o9, none, none] [.lst B] = SR.go .nx [(some (.hnd 0)), o1, o2, o3, (some m), none, none, o7, o8, o9, none, none] [.lst B3] := by
  kernel_rfl
theorem st__law_made_right_5 {o1 : Option D} {o2 : Option D} {o3 : Option D} {o7 : Option D} {o8 : Option D} {o9 : Option D} {B : List D} {B3 : List D} {m : D} (e3 : (eCalB 2 f__law_one_of [] (aCons (eVar 0) (aCons (eFz (fLst (aCons (eC .non) (aCons (eUn negD (eC (.int 1))) (aCons (eC (.int 9)) (aCons (eC (.bl true)) (aCons (eC (.str "1")) (aCons (eTup (aCons (eC (.int 1)) aNil)) (aCons (eOBT [("Operator", f_Operator___pow__)] (ints2 powI) (eC (.int 10)) (eC (.int 60))) aNil))))))))) aNil))) [(some (.hnd 0)), o1, o2, o3, none, none, none, o7, o8, o9, none, none] [.lst B] = .ok m [.lst B3]) : ((sSet 4 (eCalB 2 f__law_one_of [] (aCons (eVar 0) (aCons (eFz (fLst (aCons (eC .non) (aCons (eUn negD (eC (.int 1))) (aCons (eC (.int 9)) (aCons (eC (.bl true)) (aCons (eC (.str "1")) (aCons (eTup (aCons (eC (.int 1)) aNil)) (aCons (eOBT [("Operator", f_Operator___pow__)] (ints2 powI) (eC (.int 10)) (eC (.int 60))) aNil))))))))) aNil)))) : SS) [(some (.hnd 0)), o1, o2, o3, none, none, none, o7, o8, o9, none, none] [.lst B] = SR.go .nx [(some (.hnd 0)), o1, o2, o3, (some m), none, none, o7, o8, o9, none, none] [.lst B3] := by
  have r0 := st__law_made_right_5h0 (G0 := (eCalB 2 f__law_one_of [] (aCons (eVar 0) (aCons (eFz (fLst (aCons (eC .non) (aCons (eUn negD (eC (.int 1))) (aCons (eC (.int 9)) (aCons (eC (.bl true)) (aCons (eC (.str "1")) (aCons (eTup (aCons (eC (.int 1)) aNil)) (aCons (eOBT [("Operator", f_Operator___pow__)] (ints2 powI) (eC (.int 10)) (eC (.int 60))) aNil))))))))) aNil)))) (o1 := o1) (o2 := o2) (o3 := o3) (o7 := o7) (o8 := o8) (o9 := o9) (B := B) (B3 := B3)
  rw [e3] at r0
  exact (r0).trans ((st__law_made_right_5e))
theorem fa__law_made_right_4 {o1 : Option D} {o2 : Option D} {o3 : Option D} {o4 : Option D} {o8 : Option D} {o9 : Option D} {B : List D} : ((aCons (eVar 0) (aCons (eFz (fLst (aCons (eC .non) (aCons (eC (.int 3)) (aCons (eC (.str "x")) (aCons (eTup (aCons (eC (.int 1)) aNil)) (aCons (eMeC [("Operator", f_Operator_slopes)] 3 (eC (.glo "Operator")) (aCons (eC (.int 3)) (aCons (eC (.int 1)) aNil))) (aCons (eFz (fLst (aCons (eVar 7) aNil))) aNil)))))))) aNil)) : EA) [(some (.hnd 0)), o1, o2, o3, o4, none, none, (some one), o8, o9, none, none] [.lst B] = Res.ok [.hnd 0, .lst oddsL] [.lst B] := by
  kernel_rfl
theorem it__law_made_right_4 : okItems oddsL = true := by
  kernel_rfl
theorem st__law_made_right_6h0 {o1 : Option D} {o2 : Option D} {o3 : Option D} {o4 : Option D} {o7 : Option D} {o8 : Option D} {o9 : Option D} {B : List D} {B4 : List D} {G0 : EE} : ((sSet 5 G0) : SS) [(some (.hnd 0)), o1, o2, o3, o4, none, none, o7, o8, o9, none, none] [.lst B] = ((sSet 5 (fun _ _ => G0 [(some (.hnd 0)), o1, o2, o3, o4, none, none, o7, o8, o9, none, none] [.lst B])) : SS) [(some (.hnd 0)), o1, o2, o3, o4, none, none, o7, o8, o9, none, none] [.lst B] := by
  kernel_rfl
theorem st__law_made_right_6e {o1 : Option D} {o2 : Option D} {o3 : Option D} {o4 : Option D} {o7 : Option D} {o8 : Option D} {o9 : Option D} {B : List D} {B4 : List D} {o : D} : ((sSet 5 (fun _ _ => Res.ok o [.lst B4])) : SS) [(some (.hnd 0)), o1, o2, o3, o4, none, none, o7, o8, o9, none, none] [.lst B] = SR.go .nx [(some (.hnd 0)), o1, o2, o3, o4, (some o), none, o7, o8, o9, none, none] [.lst B4] := by
  kernel_rfl
theorem st__law_made_right_6 {o1 : Option D} {o2 : Option D} {o3 : Option D} {o4 : Option D} {o7 : Option D} {o8 : Option D} {o9 : Option D} {B : List D} {B4 : List D} {o : D} (e4 : (eCalB 2 f__law_one_of [] (aCons (eVar 0) (aCons (eFz (fLst (aCons (eC .non) (aCons (eC (.int 3)) (aCons (eC (.str "x")) (aCons (eTup (aCons (eC (.int 1)) aNil)) (aCons (eMeC [("Operator", f_Operator_slopes)] 3 (eC (.glo "Operator")) (aCons (eC (.int 3)) (aCons (eC (.int 1)) aNil))) (aCons (eFz (fLst (aCons (eVar 7) aNil))) aNil)))))))) aNil))) [(some (.hnd 0)), o1, o2, o3, o4, none, none, o7, o8, o9, none, none] [.lst B] = .ok o [.lst B4]) : ((sSet 5 (eCalB 2 f__law_one_of [] (aCons (eVar 0) (aCons (eFz (fLst (aCons (eC .non) (aCons (eC (.int 3)) (aCons (eC (.str "x")) (aCons (eTup (aCons (eC (.int 1)) aNil)) (aCons (eMeC [("Operator", f_Operator_slopes)] 3 (eC (.glo "Operator")) (aCons (eC (.int 3)) (aCons (eC (.int 1)) aNil))) (aCons (eFz (fLst (aCons (eVar 7) aNil))) aNil)))))))) aNil)))) : SS) [(some (.hnd 0)), o1, o2, o3, o4, none, none, o7, o8, o9, none, none] [.lst B] = SR.go .nx [(some (.hnd 0)), o1, o2, o3, o4, (some o), none, o7, o8, o9, none, none] [.lst B4] := by
  have r0 := st__law_made_right_6h0 (G0 := (eCalB 2 f__law_one_of [] (aCons (eVar 0) (aCons (eFz (fLst (aCons (eC .non) (aCons (eC (.int 3)) (aCons (eC (.str "x")) (aCons (eTup (aCons (eC (.int 1)) aNil)) (aCons (eMeC [("Operator", f_Operator_slopes)] 3 (eC (.glo "Operator")) (aCons (eC (.int 3)) (aCons (eC (.int 1)) aNil))) (aCons (eFz (fLst (aCons (eVar 7) aNil))) aNil)))))))) aNil)))) (o1 := o1) (o2 := o2) (o3 := o3) (o4 := o4) (o7 := o7) (o8 := o8) (o9 := o9) (B := B) (B4 := B4)
  rw [e4] at r0
  exact (r0).trans ((st__law_made_right_6e))
theorem du__law_made_right_7 {o2 : Option D} {o3 : Option D} {o5 : Option D} {o7 : Option D} {o8 : Option D} {o9 : Option D} {B : List D} {w : D} (h_w : w ∈ badsL) {m : D} (h_m : m ∈ numsL) : (duesA [(eOB [("Operator", f_Operator___add__)] addD (eC (.str "number ")) (eCB reprG (aCons (eVar 1) aNil))), (eC (.str "operator")), (eC (.str "operation")), (eC (.str "operation")), (eC (.str "fine")), (eC (.str "fine")), (eOB [("Operator", f_Operator___add__)] addD (eC (.str "number ")) (eCB reprG (aCons (eVar 1) aNil))), (eOB [("Operator", f_Operator___add__)] addD (eC (.str "number ")) (eCB reprG (aCons (eVar 4) aNil))), (eC (.str "fine")), (eC (.str "function")), (eC (.str "function"))] : EA) [(some (.hnd 0)), (some w), o2, o3, (some m), o5, none, o7, o8, o9, none, none] [.lst B] = Res.ok [numS w, .str "operator", .str "operation", .str "operation", .str "fine", .str "fine", numS w, numS m, .str "fine", .str "function", .str "function"] [.lst B] := by
  have z : mapA (fun w : D => mapA (fun m : D => (duesA [(eOB [("Operator", f_Operator___add__)] addD (eC (.str "number ")) (eCB reprG (aCons (eVar 1) aNil))), (eC (.str "operator")), (eC (.str "operation")), (eC (.str "operation")), (eC (.str "fine")), (eC (.str "fine")), (eOB [("Operator", f_Operator___add__)] addD (eC (.str "number ")) (eCB reprG (aCons (eVar 1) aNil))), (eOB [("Operator", f_Operator___add__)] addD (eC (.str "number ")) (eCB reprG (aCons (eVar 4) aNil))), (eC (.str "fine")), (eC (.str "function")), (eC (.str "function"))] : EA) [(some (.hnd 0)), (some w), o2, o3, (some m), o5, none, o7, o8, o9, none, none] [.lst B]) (numsL)) (badsL) = mapB (fun w : D => mapB (fun m : D => Res.ok [numS w, .str "operator", .str "operation", .str "operation", .str "fine", .str "fine", numS w, numS m, .str "fine", .str "function", .str "function"] [.lst B]) (numsL)) (badsL) := by kernel_rfl
  exact (all_eq (all_eq z h_w) h_m)
theorem pt__law_made_right_8 {o2 : Option D} {o4 : Option D} {o5 : Option D} {o7 : Option D} {o8 : Option D} {o9 : Option D} {B : List D} {w : D} (h_w : w ∈ badsL) {e : D} (h_e : e ∈ entsL) : (tDue tab__law_fault hs__law_fault (.tup [.str "let", .str "fine"]) u__law_made_right_1 (numS w) : ET) [(some (.hnd 0)), (some w), o2, (some e), o4, o5, none, o7, o8, o9, none, none] [.lst B] = Res.ok false [.lst B] := by
  have z : mapA (fun w : D => mapA (fun e : D => (tDue tab__law_fault hs__law_fault (.tup [.str "let", .str "fine"]) u__law_made_right_1 (numS w) : ET) [(some (.hnd 0)), (some w), o2, (some e), o4, o5, none, o7, o8, o9, none, none] [.lst B]) (entsL)) (badsL) = mapB (fun w : D => mapB (fun e : D => Res.ok false [.lst B]) (entsL)) (badsL) := by kernel_rfl
  exact (all_eq (all_eq z h_w) h_e)
theorem pt__law_made_right_9 {o1 : Option D} {o2 : Option D} {o4 : Option D} {o5 : Option D} {o7 : Option D} {o8 : Option D} {o9 : Option D} {B : List D} {e : D} (h_e : e ∈ entsL) : (tDue tab__law_fault hs__law_fault (.tup [.str "let", .str "fine"]) u__law_made_right_2 (.str "operator") : ET) [(some (.hnd 0)), o1, o2, (some e), o4, o5, none, o7, o8, o9, none, none] [.lst B] = Res.ok false [.lst B] := by
  have z : mapA (fun e : D => (tDue tab__law_fault hs__law_fault (.tup [.str "let", .str "fine"]) u__law_made_right_2 (.str "operator") : ET) [(some (.hnd 0)), o1, o2, (some e), o4, o5, none, o7, o8, o9, none, none] [.lst B]) (entsL) = mapB (fun e : D => Res.ok false [.lst B]) (entsL) := by kernel_rfl
  exact (all_eq z h_e)
theorem pt__law_made_right_10 {o1 : Option D} {o2 : Option D} {o3 : Option D} {o4 : Option D} {o5 : Option D} {o8 : Option D} {B : List D} : (tDue tab__law_fault hs__law_fault (.tup [.str "let", .str "fine"]) u__law_made_right_3 (.str "operation") : ET) [(some (.hnd 0)), o1, o2, o3, o4, o5, none, (some one), o8, (some two), none, none] [.lst B] = Res.ok false [.lst B] := by
  kernel_rfl
theorem pt__law_made_right_11 {o1 : Option D} {o2 : Option D} {o3 : Option D} {o4 : Option D} {o5 : Option D} {o8 : Option D} {o9 : Option D} {B : List D} : (tDue tab__law_fault hs__law_fault (.tup [.str "let", .str "fine"]) u__law_made_right_4 (.str "operation") : ET) [(some (.hnd 0)), o1, o2, o3, o4, o5, none, (some one), o8, o9, none, none] [.lst B] = Res.ok false [.lst B] := by
  kernel_rfl
theorem pt__law_made_right_12 {o1 : Option D} {o2 : Option D} {o3 : Option D} {o4 : Option D} {o5 : Option D} {o8 : Option D} {o9 : Option D} {B : List D} : (tDue tab__law_fault hs__law_fault (.tup [.str "let", .str "fine"]) u__law_made_right_5 (.str "fine") : ET) [(some (.hnd 0)), o1, o2, o3, o4, o5, none, (some one), o8, o9, none, none] [.lst B] = Res.ok false [.lst B] := by
  kernel_rfl
theorem pt__law_made_right_13 {o1 : Option D} {o2 : Option D} {o3 : Option D} {o4 : Option D} {o5 : Option D} {o7 : Option D} {o8 : Option D} {o9 : Option D} {B : List D} : (tDue tab__law_fault hs__law_fault (.tup [.str "let", .str "fine"]) u__law_made_right_6 (.str "fine") : ET) [(some (.hnd 0)), o1, o2, o3, o4, o5, none, o7, o8, o9, none, none] [.lst B] = Res.ok false [.lst B] := by
  kernel_rfl
theorem pt__law_made_right_14 {o2 : Option D} {o3 : Option D} {o5 : Option D} {o7 : Option D} {o8 : Option D} {o9 : Option D} {B : List D} {w : D} (h_w : w ∈ badsL) {m : D} (h_m : m ∈ numsL) : (tDue tab__law_fault hs__law_fault (.tup [.str "let", .str "fine"]) u__law_made_right_7 (numS w) : ET) [(some (.hnd 0)), (some w), o2, o3, (some m), o5, none, o7, o8, o9, none, none] [.lst B] = Res.ok false [.lst B] := by
  have z : mapA (fun w : D => mapA (fun m : D => (tDue tab__law_fault hs__law_fault (.tup [.str "let", .str "fine"]) u__law_made_right_7 (numS w) : ET) [(some (.hnd 0)), (some w), o2, o3, (some m), o5, none, o7, o8, o9, none, none] [.lst B]) (numsL)) (badsL) = mapB (fun w : D => mapB (fun m : D => Res.ok false [.lst B]) (numsL)) (badsL) := by kernel_rfl
  exact (all_eq (all_eq z h_w) h_m)
theorem pt__law_made_right_15 {o1 : Option D} {o2 : Option D} {o3 : Option D} {o5 : Option D} {o7 : Option D} {o8 : Option D} {o9 : Option D} {B : List D} {m : D} (h_m : m ∈ numsL) : (tDue tab__law_fault hs__law_fault (.tup [.str "let", .str "fine"]) u__law_made_right_8 (numS m) : ET) [(some (.hnd 0)), o1, o2, o3, (some m), o5, none, o7, o8, o9, none, none] [.lst B] = Res.ok false [.lst B] := by
  have z : mapA (fun m : D => (tDue tab__law_fault hs__law_fault (.tup [.str "let", .str "fine"]) u__law_made_right_8 (numS m) : ET) [(some (.hnd 0)), o1, o2, o3, (some m), o5, none, o7, o8, o9, none, none] [.lst B]) (numsL) = mapB (fun m : D => Res.ok false [.lst B]) (numsL) := by kernel_rfl
  exact (all_eq z h_m)
theorem pt__law_made_right_16 {o1 : Option D} {o2 : Option D} {o3 : Option D} {o4 : Option D} {o5 : Option D} {o7 : Option D} {o8 : Option D} {o9 : Option D} {B : List D} : (tDue tab__law_fault hs__law_fault (.tup [.str "let", .str "fine"]) u__law_made_right_9 (.str "fine") : ET) [(some (.hnd 0)), o1, o2, o3, o4, o5, none, o7, o8, o9, none, none] [.lst B] = Res.ok false [.lst B] := by
  kernel_rfl
theorem pt__law_made_right_17 {o1 : Option D} {o2 : Option D} {o3 : Option D} {o4 : Option D} {o7 : Option D} {o8 : Option D} {o9 : Option D} {B : List D} {o : D} (h_o : o ∈ oddsL) : (tDue tab__law_fault hs__law_fault (.tup [.str "let", .str "fine"]) u__law_made_right_10 (.str "function") : ET) [(some (.hnd 0)), o1, o2, o3, o4, (some o), none, o7, o8, o9, none, none] [.lst B] = Res.ok false [.lst B] := by
  have z : mapA (fun o : D => (tDue tab__law_fault hs__law_fault (.tup [.str "let", .str "fine"]) u__law_made_right_10 (.str "function") : ET) [(some (.hnd 0)), o1, o2, o3, o4, (some o), none, o7, o8, o9, none, none] [.lst B]) (oddsL) = mapB (fun o : D => Res.ok false [.lst B]) (oddsL) := by kernel_rfl
  exact (all_eq z h_o)
theorem pt__law_made_right_18 {o1 : Option D} {o2 : Option D} {o3 : Option D} {o4 : Option D} {o7 : Option D} {o8 : Option D} {o9 : Option D} {B : List D} {o : D} (h_o : o ∈ oddsL) : (tDue tab__law_fault hs__law_fault (.tup [.str "let", .str "fine"]) u__law_made_right_11 (.str "function") : ET) [(some (.hnd 0)), o1, o2, o3, o4, (some o), none, o7, o8, o9, none, none] [.lst B] = Res.ok false [.lst B] := by
  have z : mapA (fun o : D => (tDue tab__law_fault hs__law_fault (.tup [.str "let", .str "fine"]) u__law_made_right_11 (.str "function") : ET) [(some (.hnd 0)), o1, o2, o3, o4, (some o), none, o7, o8, o9, none, none] [.lst B]) (oddsL) = mapB (fun o : D => Res.ok false [.lst B]) (oddsL) := by kernel_rfl
  exact (all_eq z h_o)
theorem nf__law_made_right_19 {w : D} (h_w : w ∈ badsL) : D.noF w = true := by
  have z : mapA (fun w : D => D.noF w) (badsL) = mapB (fun w : D => true) (badsL) := by kernel_rfl
  exact (all_eq z h_w)
theorem nf__law_made_right_20 {e : D} (h_e : e ∈ entsL) : D.noF e = true := by
  have z : mapA (fun e : D => D.noF e) (entsL) = mapB (fun e : D => true) (entsL) := by kernel_rfl
  exact (all_eq z h_e)
theorem nf__law_made_right_21 {m : D} (h_m : m ∈ numsL) : D.noF m = true := by
  have z : mapA (fun m : D => D.noF m) (numsL) = mapB (fun m : D => true) (numsL) := by kernel_rfl
  exact (all_eq z h_m)
theorem nf__law_made_right_22 {o : D} (h_o : o ∈ oddsL) : D.noF o = true := by
  have z : mapA (fun o : D => D.noF o) (oddsL) = mapB (fun o : D => true) (oddsL) := by kernel_rfl
  exact (all_eq z h_o)
theorem D__law_made_right : Draws f__law_made_right [] badT := Draws.of (fun B hb => by
  obtain ⟨w, B1, e1, hb1, h_w⟩ := Draws.evH (Draws.one (it__law_made_right_1)) hb (n := 2) (h := 0) (sd := [(some (.hnd 0)), none, none, none, none, none, none, none, none, none, none, none]) (st := [.lst B]) (fa := (aCons (eVar 0) (aCons (eFz (fLst (aCons (eC .non) (aCons (eC (.int 0)) (aCons (eC (.int 1)) (aCons (eC (.int 4)) (aCons (eC (.int 11)) (aCons (eUn negD (eC (.int 3))) (aCons (eC (.bl true)) (aCons (eC (.str "3")) (aCons (eTup (aCons (eC (.int 3)) aNil)) (aCons (eOBT [("Operator", f_Operator___pow__)] (ints2 powI) (eC (.int 10)) (eC (.int 60))) aNil)))))))))))) aNil))) rfl (fa__law_made_right_1) rfl (by rw [noHs_cons, noHs_nil, noH_lst, (okItems_of (it__law_made_right_1)).2.2]; rfl) (okItems_of (it__law_made_right_1)).2.2
  replace e1 : eCalB 2 f__law_one_of [] (aCons (eVar 0) (aCons (eFz (fLst (aCons (eC .non) (aCons (eC (.int 0)) (aCons (eC (.int 1)) (aCons (eC (.int 4)) (aCons (eC (.int 11)) (aCons (eUn negD (eC (.int 3))) (aCons (eC (.bl true)) (aCons (eC (.str "3")) (aCons (eTup (aCons (eC (.int 3)) aNil)) (aCons (eOBT [("Operator", f_Operator___pow__)] (ints2 powI) (eC (.int 10)) (eC (.int 60))) aNil)))))))))))) aNil)) [(some (.hnd 0)), none, none, none, none, none, none, none, none, none, none, none] [.lst B] = .ok w [.lst B1] := e1
  obtain ⟨e, B2, e2, hb2, h_e⟩ := Draws.evH (Draws.one (it__law_made_right_2)) hb1 (n := 2) (h := 0) (sd := [(some (.hnd 0)), (some w), (some (.lst entsL)), none, none, none, none, (some one), (some zer), (some two), none, none]) (st := [.lst B1]) (fa := (aCons (eVar 0) (aCons (eVar 2) aNil))) rfl (fa__law_made_right_2) rfl (by rw [noHs_cons, noHs_nil, noH_lst, (okItems_of (it__law_made_right_2)).2.2]; rfl) (okItems_of (it__law_made_right_2)).2.2
  replace e2 : eCalB 2 f__law_one_of [] (aCons (eVar 0) (aCons (eVar 2) aNil)) [(some (.hnd 0)), (some w), (some (.lst entsL)), none, none, none, none, (some one), (some zer), (some two), none, none] [.lst B1] = .ok e [.lst B2] := e2
  obtain ⟨m, B3, e3, hb3, h_m⟩ := Draws.evH (Draws.one (it__law_made_right_3)) hb2 (n := 2) (h := 0) (sd := [(some (.hnd 0)), (some w), (some (.lst entsL)), (some e), none, none, none, (some one), (some zer), (some two), none, none]) (st := [.lst B2]) (fa := (aCons (eVar 0) (aCons (eFz (fLst (aCons (eC .non) (aCons (eUn negD (eC (.int 1))) (aCons (eC (.int 9)) (aCons (eC (.bl true)) (aCons (eC (.str "1")) (aCons (eTup (aCons (eC (.int 1)) aNil)) (aCons (eOBT [("Operator", f_Operator___pow__)] (ints2 powI) (eC (.int 10)) (eC (.int 60))) aNil))))))))) aNil))) rfl (fa__law_made_right_3) rfl (by rw [noHs_cons, noHs_nil, noH_lst, (okItems_of (it__law_made_right_3)).2.2]; rfl) (okItems_of (it__law_made_right_3)).2.2
  replace e3 : eCalB 2 f__law_one_of [] (aCons (eVar 0) (aCons (eFz (fLst (aCons (eC .non) (aCons (eUn negD (eC (.int 1))) (aCons (eC (.int 9)) (aCons (eC (.bl true)) (aCons (eC (.str "1")) (aCons (eTup (aCons (eC (.int 1)) aNil)) (aCons (eOBT [("Operator", f_Operator___pow__)] (ints2 powI) (eC (.int 10)) (eC (.int 60))) aNil))))))))) aNil)) [(some (.hnd 0)), (some w), (some (.lst entsL)), (some e), none, none, none, (some one), (some zer), (some two), none, none] [.lst B2] = .ok m [.lst B3] := e3
  obtain ⟨o, B4, e4, hb4, h_o⟩ := Draws.evH (Draws.one (it__law_made_right_4)) hb3 (n := 2) (h := 0) (sd := [(some (.hnd 0)), (some w), (some (.lst entsL)), (some e), (some m), none, none, (some one), (some zer), (some two), none, none]) (st := [.lst B3]) (fa := (aCons (eVar 0) (aCons (eFz (fLst (aCons (eC .non) (aCons (eC (.int 3)) (aCons (eC (.str "x")) (aCons (eTup (aCons (eC (.int 1)) aNil)) (aCons (eMeC [("Operator", f_Operator_slopes)] 3 (eC (.glo "Operator")) (aCons (eC (.int 3)) (aCons (eC (.int 1)) aNil))) (aCons (eFz (fLst (aCons (eVar 7) aNil))) aNil)))))))) aNil))) rfl (fa__law_made_right_4) rfl (by rw [noHs_cons, noHs_nil, noH_lst, (okItems_of (it__law_made_right_4)).2.2]; rfl) (okItems_of (it__law_made_right_4)).2.2
  replace e4 : eCalB 2 f__law_one_of [] (aCons (eVar 0) (aCons (eFz (fLst (aCons (eC .non) (aCons (eC (.int 3)) (aCons (eC (.str "x")) (aCons (eTup (aCons (eC (.int 1)) aNil)) (aCons (eMeC [("Operator", f_Operator_slopes)] 3 (eC (.glo "Operator")) (aCons (eC (.int 3)) (aCons (eC (.int 1)) aNil))) (aCons (eFz (fLst (aCons (eVar 7) aNil))) aNil)))))))) aNil)) [(some (.hnd 0)), (some w), (some (.lst entsL)), (some e), (some m), none, none, (some one), (some zer), (some two), none, none] [.lst B3] = .ok o [.lst B4] := e4
  refine ⟨.bl true, B4, [(some (.hnd 0)), (some w), (some (.lst entsL)), (some e), (some m), (some o), (some (.lst (lamItems 0 [numS w, .str "operator", .str "operation", .str "operation", .str "fine", .str "fine", numS w, numS m, .str "fine", .str "function", .str "function"]))), (some one), (some zer), (some two), none, none], [], ?_, hb4, List.mem_singleton.mpr rfl⟩
  show n__law_made_right [(some (.hnd 0)), none, none, none, none, none, none, none, none, none, none, none] [.lst B] = _
  unfold n__law_made_right
  refine sq_nx (st__law_made_right_1 e1) ?_
  refine sq_nx (st__law_made_right_2) ?_
  refine sq_nx (st__law_made_right_3) ?_
  refine sq_nx (st__law_made_right_4 e2) ?_
  refine sq_nx (st__law_made_right_5 e3) ?_
  refine sq_nx (st__law_made_right_6 e4) ?_
  exact (sq_rt (lams_ret (i := 6) (jc := 10) (jd := 11) (sd := [(some (.hnd 0)), (some w), (some (.lst entsL)), (some e), (some m), (some o), none, (some one), (some zer), (some two), none, none]) (sdC := [(some (.hnd 0)), (some w), (some (.lst entsL)), (some e), (some m), (some o), none, (some one), (some zer), (some two), none, none]) (st := [.lst B4]) (ds := [numS w, .str "operator", .str "operation", .str "operation", .str "fine", .str "fine", numS w, numS m, .str "fine", .str "function", .str "function"]) (du__law_made_right_7 h_w h_m) (by show 11 < lineN; decide) (by decide) (by show 6 < 12; decide) (by show 10 < 12; decide) (by show 11 < 12; decide) (by obtain ⟨ba, bb, bc, rfl⟩ := hb4; rfl) (clean_of (sd := wipeD ([(some (.hnd 0)), (some w), (some (.lst entsL)), (some e), (some m), (some o), none, (some one), (some zer), (some two), none, none].set 6 (some (.lst (lamItems 0 [numS w, .str "operator", .str "operation", .str "operation", .str "fine", .str "fine", numS w, numS m, .str "fine", .str "function", .str "function"])))) [10, 11]) (sd' := [(some (.hnd 0)), (some w), (some (.lst entsL)), (some e), (some m), (some o), none, (some one), (some zer), (some two), none, none]) ⟨⟨rfl, rfl⟩, ⟨⟨rfl, (nf__law_made_right_19 h_w)⟩, ⟨⟨rfl, rfl⟩, ⟨⟨rfl, (nf__law_made_right_20 h_e)⟩, ⟨⟨rfl, (nf__law_made_right_21 h_m)⟩, ⟨⟨rfl, (nf__law_made_right_22 h_o)⟩, ⟨rfl, ⟨⟨rfl, rfl⟩, ⟨⟨rfl, rfl⟩, ⟨⟨rfl, rfl⟩, True.intro⟩⟩⟩⟩⟩⟩⟩⟩⟩⟩) ⟨(pt__law_made_right_8 h_w h_e), ⟨(pt__law_made_right_9 h_e), ⟨(pt__law_made_right_10), ⟨(pt__law_made_right_11), ⟨(pt__law_made_right_12), ⟨(pt__law_made_right_13), ⟨(pt__law_made_right_14 h_w h_m), ⟨(pt__law_made_right_15 h_m), ⟨(pt__law_made_right_16), ⟨(pt__law_made_right_17 h_o), ⟨(pt__law_made_right_18 h_o), True.intro⟩⟩⟩⟩⟩⟩⟩⟩⟩⟩⟩))) rfl
end Gn
namespace Gn
open PySem PySem.Spec PyProof.Rows L2 DS Pm
theorem st__law_used_right_1 {B : List D} : ((sAsg (eTup (aCons (eMeC [("Operator", f_Operator_slopes)] 3 (eC (.glo "Operator")) (aCons (eC (.int 3)) (aCons (eC (.int 1)) aNil))) (aCons (eMeC [("Operator", f_Operator_slopes)] 3 (eC (.glo "Operator")) (aCons (eC (.int 2)) (aCons (eC (.int 1)) aNil))) (aCons (eMeC [("Function", f_Function_number)] 3 (eC (.glo "Function")) (aCons (eC (.int 3)) (aCons (eC (.int 1)) aNil))) aNil)))) (gTupD (gNameD 5 :: gNameD 6 :: gNameD 7 :: []))) : SS) [(some (.hnd 0)), none, none, none, none, none, none, none, none, none] [.lst B] = SR.go .nx [(some (.hnd 0)), none, none, none, none, (some ln), (some ln2), (some one), none, none] [.lst B] := by
  kernel_rfl
theorem fa__law_used_right_1 {o6 : Option D} {B : List D} : ((aCons (eVar 0) (aCons (eFz (fLst (aCons (eC .non) (aCons (eC (.int 3)) (aCons (eC (.str "x")) (aCons (eTup (aCons (eC (.int 1)) aNil)) (aCons (eVar 5) (aCons (eFz (fLst (aCons (eVar 7) aNil))) (aCons eDict0 aNil))))))))) aNil)) : EA) [(some (.hnd 0)), none, none, none, none, (some ln), o6, (some one), none, none] [.lst B] = Res.ok [.hnd 0, .lst odds2L] [.lst B] := by
  kernel_rfl
theorem it__law_used_right_1 : okItems odds2L = true := by
  kernel_rfl
theorem st__law_used_right_2h0 {o5 : Option D} {o6 : Option D} {o7 : Option D} {B : List D} {B1 : List D} {G0 : EE} : ((sSet 1 G0) : SS) [(some (.hnd 0)), none, none, none, none, o5, o6, o7, none, none] [.lst B] = ((sSet 1 (fun _ _ => G0 [(some (.hnd 0)), none, none, none, none, o5, o6, o7, none, none] [.lst B])) : SS) [(some (.hnd 0)), none, none, none, none, o5, o6, o7, none, none] [.lst B] := by
  kernel_rfl
theorem st__law_used_right_2e {o5 : Option D} {o6 : Option D} {o7 : Option D} {B : List D} {B1 : List D} {o : D} : ((sSet 1 (fun _ _ => Res.ok o [.lst B1])) : SS) [(some (.hnd 0)), none, none, none, none, o5, o6, o7, none, none] [.lst B] = SR.go .nx [(some (.hnd 0)), (some o), none, none, none, o5, o6, o7, none, none] [.lst B1] := by
  kernel_rfl
theorem st__law_used_right_2 {o5 : Option D} {o6 : Option D} {o7 : Option D} {B : List D} {B1 : List D} {o : D} (e1 : (eCalB 2 f__law_one_of [] (aCons (eVar 0) (aCons (eFz (fLst (aCons (eC .non) (aCons (eC (.int 3)) (aCons (eC (.str "x")) (aCons (eTup (aCons (eC (.int 1)) aNil)) (aCons (eVar 5) (aCons (eFz (fLst (aCons (eVar 7) aNil))) (aCons eDict0 aNil))))))))) aNil))) [(some (.hnd 0)), none, none, none, none, o5, o6, o7, none, none] [.lst B] = .ok o [.lst B1]) : ((sSet 1 (eCalB 2 f__law_one_of [] (aCons (eVar 0) (aCons (eFz (fLst (aCons (eC .non) (aCons (eC (.int 3)) (aCons (eC (.str "x")) (aCons (eTup (aCons (eC (.int 1)) aNil)) (aCons (eVar 5) (aCons (eFz (fLst (aCons (eVar 7) aNil))) (aCons eDict0 aNil))))))))) aNil)))) : SS) [(some (.hnd 0)), none, none, none, none, o5, o6, o7, none, none] [.lst B] = SR.go .nx [(some (.hnd 0)), (some o), none, none, none, o5, o6, o7, none, none] [.lst B1] := by
  have r0 := st__law_used_right_2h0 (G0 := (eCalB 2 f__law_one_of [] (aCons (eVar 0) (aCons (eFz (fLst (aCons (eC .non) (aCons (eC (.int 3)) (aCons (eC (.str "x")) (aCons (eTup (aCons (eC (.int 1)) aNil)) (aCons (eVar 5) (aCons (eFz (fLst (aCons (eVar 7) aNil))) (aCons eDict0 aNil))))))))) aNil)))) (o5 := o5) (o6 := o6) (o7 := o7) (B := B) (B1 := B1)
  rw [e1] at r0
  exact (r0).trans ((st__law_used_right_2e))
theorem fa__law_used_right_2 {o1 : Option D} {o6 : Option D} {B : List D} : ((aCons (eVar 0) (aCons (eFz (fLst (aCons (eC .non) (aCons (eC (.int 0)) (aCons (eC (.str "D")) (aCons (eTup (aCons (eVar 7) aNil)) (aCons (eVar 7) (aCons (eFz (fLst (aCons (eVar 5) aNil))) (aCons eDict0 aNil))))))))) aNil)) : EA) [(some (.hnd 0)), o1, none, none, none, (some ln), o6, (some one), none, none] [.lst B] = Res.ok [.hnd 0, .lst nonesL] [.lst B] := by
  kernel_rfl
theorem it__law_used_right_2 : okItems nonesL = true := by
  kernel_rfl
theorem st__law_used_right_3h0 {o1 : Option D} {o5 : Option D} {o6 : Option D} {o7 : Option D} {B : List D} {B2 : List D} {G0 : EE} : ((sSet 2 G0) : SS) [(some (.hnd 0)), o1, none, none, none, o5, o6, o7, none, none] [.lst B] = ((sSet 2 (fun _ _ => G0 [(some (.hnd 0)), o1, none, none, none, o5, o6, o7, none, none] [.lst B])) : SS) [(some (.hnd 0)), o1, none, none, none, o5, o6, o7, none, none] [.lst B] := by
  kernel_rfl
theorem st__law_used_right_3e {o1 : Option D} {o5 : Option D} {o6 : Option D} {o7 : Option D} {B : List D} {B2 : List D} {n : D} : ((sSet 2 (fun _ _ => Res.ok n [.lst B2])) : SS) [(some (.hnd 0)), o1, none, none, none, o5, o6, o7, none, none] [.lst B] = SR.go .nx [(some (.hnd 0)), o1, (some n), none, none, o5, o6, o7, none, none] [.lst B2] := by
  kernel_rfl
theorem st__law_used_right_3 {o1 : Option D} {o5 : Option D} {o6 : Option D} {o7 : Option D} {B : List D} {B2 : List D} {n : D} (e2 : (eCalB 2 f__law_one_of [] (aCons (eVar 0) (aCons (eFz (fLst (aCons (eC .non) (aCons (eC (.int 0)) (aCons (eC (.str "D")) (aCons (eTup (aCons (eVar 7) aNil)) (aCons (eVar 7) (aCons (eFz (fLst (aCons (eVar 5) aNil))) (aCons eDict0 aNil))))))))) aNil))) [(some (.hnd 0)), o1, none, none, none, o5, o6, o7, none, none] [.lst B] = .ok n [.lst B2]) : ((sSet 2 (eCalB 2 f__law_one_of [] (aCons (eVar 0) (aCons (eFz (fLst (aCons (eC .non) (aCons (eC (.int 0)) (aCons (eC (.str "D")) (aCons (eTup (aCons (eVar 7) aNil)) (aCons (eVar 7) (aCons (eFz (fLst (aCons (eVar 5) aNil))) (aCons eDict0 aNil))))))))) aNil)))) : SS) [(some (.hnd 0)), o1, none, none, none, o5, o6, o7, none, none] [.lst B] = SR.go .nx [(some (.hnd 0)), o1, (some n), none, none, o5, o6, o7, none, none] [.lst B2] := by
  have r0 := st__law_used_right_3h0 (G0 := (eCalB 2 f__law_one_of [] (aCons (eVar 0) (aCons (eFz (fLst (aCons (eC .non) (aCons (eC (.int 0)) (aCons (eC (.str "D")) (aCons (eTup (aCons (eVar 7) aNil)) (aCons (eVar 7) (aCons (eFz (fLst (aCons (eVar 5) aNil))) (aCons eDict0 aNil))))))))) aNil)))) (o1 := o1) (o5 := o5) (o6 := o6) (o7 := o7) (B := B) (B2 := B2)
  rw [e2] at r0
  exact (r0).trans ((st__law_used_right_3e))
theorem fa__law_used_right_3 {o1 : Option D} {o2 : Option D} {o5 : Option D} {o6 : Option D} {o7 : Option D} {B : List D} : ((aCons (eVar 0) (aCons (eFz (fLst (aCons (eC .non) (aCons (eUn negD (eC (.int 1))) (aCons (eC (.int 1001)) (aCons (eC (.bl true)) (aCons (eC (.str "1")) (aCons (eTup (aCons (eC (.int 1)) aNil)) (aCons (eOBT [("Operator", f_Operator___pow__)] (ints2 powI) (eC (.int 10)) (eC (.int 60))) aNil))))))))) aNil)) : EA) [(some (.hnd 0)), o1, o2, none, none, o5, o6, o7, none, none] [.lst B] = Res.ok [.hnd 0, .lst highL] [.lst B] := by
  kernel_rfl
theorem it__law_used_right_3 : okItems highL = true := by
  kernel_rfl
theorem st__law_used_right_4h0 {o1 : Option D} {o2 : Option D} {o5 : Option D} {o6 : Option D} {o7 : Option D} {B : List D} {B3 : List D} {G0 : EE} : ((sSet 3 G0) : SS) [(some (.hnd 0)), o1, o2, none, none, o5, o6, o7, none, none] [.lst B] = ((sSet 3 (fun _ _ => G0 [(some (.hnd 0)), o1, o2, none, none, o5, o6, o7, none, none] [.lst B])) : SS) [(some (.hnd 0)), o1, o2, none, none, o5, o6, o7, none, none] [.lst B] := by
  kernel_rfl
theorem st__law_used_right_4e {o1 : Option D} {o2 : Option D} {o5 : Option D} {o6 : Option D} {o7 : Option D} {B : List D} {B3 : List D} {v : D} : ((sSet 3 (fun _ _ => Res.ok v [.lst B3])) : SS) [(some (.hnd 0)), o1, o2, none, none, o5, o6, o7, none, none] [.lst B] = SR.go .nx [(some (.hnd 0)), o1, o2, (some v), none, o5, o6, o7, none, none] [.lst B3] := by
  kernel_rfl
theorem st__law_used_right_4 {o1 : Option D} {o2 : Option D} {o5 : Option D} {o6 : Option D} {o7 : Option D} {B : List D} {B3 : List D} {v : D} (e3 : (eCalB 2 f__law_one_of [] (aCons (eVar 0) (aCons (eFz (fLst (aCons (eC .non) (aCons (eUn negD (eC (.int 1))) (aCons (eC (.int 1001)) (aCons (eC (.bl true)) (aCons (eC (.str "1")) (aCons (eTup (aCons (eC (.int 1)) aNil)) (aCons (eOBT [("Operator", f_Operator___pow__)] (ints2 powI) (eC (.int 10)) (eC (.int 60))) aNil))))))))) aNil))) [(some (.hnd 0)), o1, o2, none, none, o5, o6, o7, none, none] [.lst B] = .ok v [.lst B3]) : ((sSet 3 (eCalB 2 f__law_one_of [] (aCons (eVar 0) (aCons (eFz (fLst (aCons (eC .non) (aCons (eUn negD (eC (.int 1))) (aCons (eC (.int 1001)) (aCons (eC (.bl true)) (aCons (eC (.str "1")) (aCons (eTup (aCons (eC (.int 1)) aNil)) (aCons (eOBT [("Operator", f_Operator___pow__)] (ints2 powI) (eC (.int 10)) (eC (.int 60))) aNil))))))))) aNil)))) : SS) [(some (.hnd 0)), o1, o2, none, none, o5, o6, o7, none, none] [.lst B] = SR.go .nx [(some (.hnd 0)), o1, o2, (some v), none, o5, o6, o7, none, none] [.lst B3] := by
  have r0 := st__law_used_right_4h0 (G0 := (eCalB 2 f__law_one_of [] (aCons (eVar 0) (aCons (eFz (fLst (aCons (eC .non) (aCons (eUn negD (eC (.int 1))) (aCons (eC (.int 1001)) (aCons (eC (.bl true)) (aCons (eC (.str "1")) (aCons (eTup (aCons (eC (.int 1)) aNil)) (aCons (eOBT [("Operator", f_Operator___pow__)] (ints2 powI) (eC (.int 10)) (eC (.int 60))) aNil))))))))) aNil)))) (o1 := o1) (o2 := o2) (o5 := o5) (o6 := o6) (o7 := o7) (B := B) (B3 := B3)
  rw [e3] at r0
  exact (r0).trans ((st__law_used_right_4e))
theorem du__law_used_right_5 {o1 : Option D} {o2 : Option D} {o5 : Option D} {o6 : Option D} {o7 : Option D} {B : List D} {v : D} (h_v : v ∈ highL) : (duesA [(eC (.str "function")), (eC (.str "operation")), (eC (.str "function")), (eC (.str "operation")), (eOB [("Operator", f_Operator___add__)] addD (eC (.str "number ")) (eCB reprG (aCons (eVar 3) aNil))), (eC (.str "fine")), (eC (.str "operation")), (eC (.str "operation")), (eC (.str "operation")), (eC (.str "operation")), (eC (.str "number 9")), (eC (.str "fine")), (eC (.str "operator")), (eC (.str "operator")), (eC (.str "operation")), (eC (.str "operator")), (eC (.str "operator")), (eC (.str "function")), (eC (.str "operation")), (eC (.str "fine"))] : EA) [(some (.hnd 0)), o1, o2, (some v), none, o5, o6, o7, none, none] [.lst B] = Res.ok [.str "function", .str "operation", .str "function", .str "operation", numS v, .str "fine", .str "operation", .str "operation", .str "operation", .str "operation", .str "number 9", .str "fine", .str "operator", .str "operator", .str "operation", .str "operator", .str "operator", .str "function", .str "operation", .str "fine"] [.lst B] := by
  have z : mapA (fun v : D => (duesA [(eC (.str "function")), (eC (.str "operation")), (eC (.str "function")), (eC (.str "operation")), (eOB [("Operator", f_Operator___add__)] addD (eC (.str "number ")) (eCB reprG (aCons (eVar 3) aNil))), (eC (.str "fine")), (eC (.str "operation")), (eC (.str "operation")), (eC (.str "operation")), (eC (.str "operation")), (eC (.str "number 9")), (eC (.str "fine")), (eC (.str "operator")), (eC (.str "operator")), (eC (.str "operation")), (eC (.str "operator")), (eC (.str "operator")), (eC (.str "function")), (eC (.str "operation")), (eC (.str "fine"))] : EA) [(some (.hnd 0)), o1, o2, (some v), none, o5, o6, o7, none, none] [.lst B]) (highL) = mapB (fun v : D => Res.ok [.str "function", .str "operation", .str "function", .str "operation", numS v, .str "fine", .str "operation", .str "operation", .str "operation", .str "operation", .str "number 9", .str "fine", .str "operator", .str "operator", .str "operation", .str "operator", .str "operator", .str "function", .str "operation", .str "fine"] [.lst B]) (highL) := by kernel_rfl
  exact (all_eq z h_v)
theorem pt__law_used_right_6 {o2 : Option D} {o3 : Option D} {o6 : Option D} {o7 : Option D} {B : List D} {o : D} (h_o : o ∈ odds2L) : (tDue tab__law_fault hs__law_fault (.tup [.str "let", .str "fine"]) u__law_used_right_1 (.str "function") : ET) [(some (.hnd 0)), (some o), o2, o3, none, (some ln), o6, o7, none, none] [.lst B] = Res.ok false [.lst B] := by
  have z : mapA (fun o : D => (tDue tab__law_fault hs__law_fault (.tup [.str "let", .str "fine"]) u__law_used_right_1 (.str "function") : ET) [(some (.hnd 0)), (some o), o2, o3, none, (some ln), o6, o7, none, none] [.lst B]) (odds2L) = mapB (fun o : D => Res.ok false [.lst B]) (odds2L) := by kernel_rfl
  exact (all_eq z h_o)
theorem pt__law_used_right_7 {o1 : Option D} {o2 : Option D} {o3 : Option D} {o6 : Option D} {o7 : Option D} {B : List D} : (tDue tab__law_fault hs__law_fault (.tup [.str "let", .str "fine"]) u__law_used_right_2 (.str "operation") : ET) [(some (.hnd 0)), o1, o2, o3, none, (some ln), o6, o7, none, none] [.lst B] = Res.ok false [.lst B] := by
  kernel_rfl
theorem pt__law_used_right_8 {o2 : Option D} {o3 : Option D} {o6 : Option D} {o7 : Option D} {B : List D} {o : D} (h_o : o ∈ odds2L) : (tDue tab__law_fault hs__law_fault (.tup [.str "let", .str "fine"]) u__law_used_right_3 (.str "function") : ET) [(some (.hnd 0)), (some o), o2, o3, none, (some ln), o6, o7, none, none] [.lst B] = Res.ok false [.lst B] := by
  have z : mapA (fun o : D => (tDue tab__law_fault hs__law_fault (.tup [.str "let", .str "fine"]) u__law_used_right_3 (.str "function") : ET) [(some (.hnd 0)), (some o), o2, o3, none, (some ln), o6, o7, none, none] [.lst B]) (odds2L) = mapB (fun o : D => Res.ok false [.lst B]) (odds2L) := by kernel_rfl
  exact (all_eq z h_o)
theorem pt__law_used_right_9 {o1 : Option D} {o2 : Option D} {o3 : Option D} {o6 : Option D} {o7 : Option D} {B : List D} : (tDue tab__law_fault hs__law_fault (.tup [.str "let", .str "fine"]) u__law_used_right_4 (.str "operation") : ET) [(some (.hnd 0)), o1, o2, o3, none, (some ln), o6, o7, none, none] [.lst B] = Res.ok false [.lst B] := by
  kernel_rfl
theorem pt__law_used_right_10 {o1 : Option D} {o2 : Option D} {o6 : Option D} {o7 : Option D} {B : List D} {v : D} (h_v : v ∈ highL) : (tDue tab__law_fault hs__law_fault (.tup [.str "let", .str "fine"]) u__law_used_right_5 (numS v) : ET) [(some (.hnd 0)), o1, o2, (some v), none, (some ln), o6, o7, none, none] [.lst B] = Res.ok false [.lst B] := by
  have z : mapA (fun v : D => (tDue tab__law_fault hs__law_fault (.tup [.str "let", .str "fine"]) u__law_used_right_5 (numS v) : ET) [(some (.hnd 0)), o1, o2, (some v), none, (some ln), o6, o7, none, none] [.lst B]) (highL) = mapB (fun v : D => Res.ok false [.lst B]) (highL) := by kernel_rfl
  exact (all_eq z h_v)
theorem pt__law_used_right_11 {o1 : Option D} {o2 : Option D} {o3 : Option D} {o6 : Option D} {o7 : Option D} {B : List D} : (tDue tab__law_fault hs__law_fault (.tup [.str "let", .str "fine"]) u__law_used_right_6 (.str "fine") : ET) [(some (.hnd 0)), o1, o2, o3, none, (some ln), o6, o7, none, none] [.lst B] = Res.ok false [.lst B] := by
  kernel_rfl
theorem pt__law_used_right_12 {o1 : Option D} {o2 : Option D} {o3 : Option D} {o5 : Option D} {o6 : Option D} {o7 : Option D} {B : List D} : (tDue tab__law_fault hs__law_fault (.tup [.str "let", .str "fine"]) u__law_used_right_7 (.str "operation") : ET) [(some (.hnd 0)), o1, o2, o3, none, o5, o6, o7, none, none] [.lst B] = Res.ok false [.lst B] := by
  kernel_rfl
theorem pt__law_used_right_13 {o1 : Option D} {o2 : Option D} {o3 : Option D} {o7 : Option D} {B : List D} : (tDue tab__law_fault hs__law_fault (.tup [.str "let", .str "fine"]) u__law_used_right_8 (.str "operation") : ET) [(some (.hnd 0)), o1, o2, o3, none, (some ln), (some ln2), o7, none, none] [.lst B] = Res.ok false [.lst B] := by
  kernel_rfl
theorem pt__law_used_right_14 {o1 : Option D} {o2 : Option D} {o3 : Option D} {o7 : Option D} {B : List D} : (tDue tab__law_fault hs__law_fault (.tup [.str "let", .str "fine"]) u__law_used_right_9 (.str "operation") : ET) [(some (.hnd 0)), o1, o2, o3, none, (some ln), (some ln2), o7, none, none] [.lst B] = Res.ok false [.lst B] := by
  kernel_rfl
theorem pt__law_used_right_15 {o1 : Option D} {o2 : Option D} {o3 : Option D} {o7 : Option D} {B : List D} : (tDue tab__law_fault hs__law_fault (.tup [.str "let", .str "fine"]) u__law_used_right_10 (.str "operation") : ET) [(some (.hnd 0)), o1, o2, o3, none, (some ln), (some ln2), o7, none, none] [.lst B] = Res.ok false [.lst B] := by
  kernel_rfl
theorem pt__law_used_right_16 {o1 : Option D} {o2 : Option D} {o3 : Option D} {o6 : Option D} {o7 : Option D} {B : List D} : (tDue tab__law_fault hs__law_fault (.tup [.str "let", .str "fine"]) u__law_used_right_11 (.str "number 9") : ET) [(some (.hnd 0)), o1, o2, o3, none, (some ln), o6, o7, none, none] [.lst B] = Res.ok false [.lst B] := by
  kernel_rfl
theorem pt__law_used_right_17 {o1 : Option D} {o2 : Option D} {o3 : Option D} {o6 : Option D} {o7 : Option D} {B : List D} : (tDue tab__law_fault hs__law_fault (.tup [.str "let", .str "fine"]) u__law_used_right_12 (.str "fine") : ET) [(some (.hnd 0)), o1, o2, o3, none, (some ln), o6, o7, none, none] [.lst B] = Res.ok false [.lst B] := by
  kernel_rfl
theorem pt__law_used_right_18 {o1 : Option D} {o3 : Option D} {o5 : Option D} {o6 : Option D} {o7 : Option D} {B : List D} {n : D} (h_n : n ∈ nonesL) : (tDue tab__law_fault hs__law_fault (.tup [.str "let", .str "fine"]) u__law_used_right_13 (.str "operator") : ET) [(some (.hnd 0)), o1, (some n), o3, none, o5, o6, o7, none, none] [.lst B] = Res.ok false [.lst B] := by
  have z : mapA (fun n : D => (tDue tab__law_fault hs__law_fault (.tup [.str "let", .str "fine"]) u__law_used_right_13 (.str "operator") : ET) [(some (.hnd 0)), o1, (some n), o3, none, o5, o6, o7, none, none] [.lst B]) (nonesL) = mapB (fun n : D => Res.ok false [.lst B]) (nonesL) := by kernel_rfl
  exact (all_eq z h_n)
theorem pt__law_used_right_19 {o1 : Option D} {o3 : Option D} {o6 : Option D} {o7 : Option D} {B : List D} {n : D} (h_n : n ∈ nonesL) : (tDue tab__law_fault hs__law_fault (.tup [.str "let", .str "fine"]) u__law_used_right_14 (.str "operator") : ET) [(some (.hnd 0)), o1, (some n), o3, none, (some ln), o6, o7, none, none] [.lst B] = Res.ok false [.lst B] := by
  have z : mapA (fun n : D => (tDue tab__law_fault hs__law_fault (.tup [.str "let", .str "fine"]) u__law_used_right_14 (.str "operator") : ET) [(some (.hnd 0)), o1, (some n), o3, none, (some ln), o6, o7, none, none] [.lst B]) (nonesL) = mapB (fun n : D => Res.ok false [.lst B]) (nonesL) := by kernel_rfl
  exact (all_eq z h_n)
theorem pt__law_used_right_20 {o1 : Option D} {o2 : Option D} {o3 : Option D} {o7 : Option D} {B : List D} : (tDue tab__law_fault hs__law_fault (.tup [.str "let", .str "fine"]) u__law_used_right_15 (.str "operation") : ET) [(some (.hnd 0)), o1, o2, o3, none, (some ln), (some ln2), o7, none, none] [.lst B] = Res.ok false [.lst B] := by
  kernel_rfl
theorem pt__law_used_right_21 {o1 : Option D} {o3 : Option D} {o5 : Option D} {o6 : Option D} {o7 : Option D} {B : List D} {n : D} (h_n : n ∈ nonesL) : (tDue tab__law_fault hs__law_fault (.tup [.str "let", .str "fine"]) u__law_used_right_16 (.str "operator") : ET) [(some (.hnd 0)), o1, (some n), o3, none, o5, o6, o7, none, none] [.lst B] = Res.ok false [.lst B] := by
  have z : mapA (fun n : D => (tDue tab__law_fault hs__law_fault (.tup [.str "let", .str "fine"]) u__law_used_right_16 (.str "operator") : ET) [(some (.hnd 0)), o1, (some n), o3, none, o5, o6, o7, none, none] [.lst B]) (nonesL) = mapB (fun n : D => Res.ok false [.lst B]) (nonesL) := by kernel_rfl
  exact (all_eq z h_n)
theorem pt__law_used_right_22 {o3 : Option D} {o5 : Option D} {o6 : Option D} {o7 : Option D} {B : List D} {o : D} (h_o : o ∈ odds2L) {n : D} (h_n : n ∈ nonesL) : (tDue tab__law_fault hs__law_fault (.tup [.str "let", .str "fine"]) u__law_used_right_17 (.str "operator") : ET) [(some (.hnd 0)), (some o), (some n), o3, none, o5, o6, o7, none, none] [.lst B] = Res.ok false [.lst B] := by
  have z : mapA (fun o : D => mapA (fun n : D => (tDue tab__law_fault hs__law_fault (.tup [.str "let", .str "fine"]) u__law_used_right_17 (.str "operator") : ET) [(some (.hnd 0)), (some o), (some n), o3, none, o5, o6, o7, none, none] [.lst B]) (nonesL)) (odds2L) = mapB (fun o : D => mapB (fun n : D => Res.ok false [.lst B]) (nonesL)) (odds2L) := by kernel_rfl
  exact (all_eq (all_eq z h_o) h_n)
theorem pt__law_used_right_23 {o2 : Option D} {o3 : Option D} {o6 : Option D} {o7 : Option D} {B : List D} {o : D} (h_o : o ∈ odds2L) : (tDue tab__law_fault hs__law_fault (.tup [.str "let", .str "fine"]) u__law_used_right_18 (.str "function") : ET) [(some (.hnd 0)), (some o), o2, o3, none, (some ln), o6, o7, none, none] [.lst B] = Res.ok false [.lst B] := by
  have z : mapA (fun o : D => (tDue tab__law_fault hs__law_fault (.tup [.str "let", .str "fine"]) u__law_used_right_18 (.str "function") : ET) [(some (.hnd 0)), (some o), o2, o3, none, (some ln), o6, o7, none, none] [.lst B]) (odds2L) = mapB (fun o : D => Res.ok false [.lst B]) (odds2L) := by kernel_rfl
  exact (all_eq z h_o)
theorem pt__law_used_right_24 {o1 : Option D} {o2 : Option D} {o3 : Option D} {o6 : Option D} {B : List D} : (tDue tab__law_fault hs__law_fault (.tup [.str "let", .str "fine"]) u__law_used_right_19 (.str "operation") : ET) [(some (.hnd 0)), o1, o2, o3, none, (some ln), o6, (some one), none, none] [.lst B] = Res.ok false [.lst B] := by
  kernel_rfl
theorem pt__law_used_right_25 {o1 : Option D} {o2 : Option D} {o3 : Option D} {o6 : Option D} {o7 : Option D} {B : List D} : (tDue tab__law_fault hs__law_fault (.tup [.str "let", .str "fine"]) u__law_used_right_20 (.str "fine") : ET) [(some (.hnd 0)), o1, o2, o3, none, (some ln), o6, o7, none, none] [.lst B] = Res.ok false [.lst B] := by
  kernel_rfl
theorem nf__law_used_right_26 {o : D} (h_o : o ∈ odds2L) : D.noF o = true := by
  have z : mapA (fun o : D => D.noF o) (odds2L) = mapB (fun o : D => true) (odds2L) := by kernel_rfl
  exact (all_eq z h_o)
theorem nf__law_used_right_27 {n : D} (h_n : n ∈ nonesL) : D.noF n = true := by
  have z : mapA (fun n : D => D.noF n) (nonesL) = mapB (fun n : D => true) (nonesL) := by kernel_rfl
  exact (all_eq z h_n)
theorem nf__law_used_right_28 {v : D} (h_v : v ∈ highL) : D.noF v = true := by
  have z : mapA (fun v : D => D.noF v) (highL) = mapB (fun v : D => true) (highL) := by kernel_rfl
  exact (all_eq z h_v)
theorem D__law_used_right : Draws f__law_used_right [] badT := Draws.of (fun B hb => by
  obtain ⟨o, B1, e1, hb1, h_o⟩ := Draws.evH (Draws.one (it__law_used_right_1)) hb (n := 2) (h := 0) (sd := [(some (.hnd 0)), none, none, none, none, (some ln), (some ln2), (some one), none, none]) (st := [.lst B]) (fa := (aCons (eVar 0) (aCons (eFz (fLst (aCons (eC .non) (aCons (eC (.int 3)) (aCons (eC (.str "x")) (aCons (eTup (aCons (eC (.int 1)) aNil)) (aCons (eVar 5) (aCons (eFz (fLst (aCons (eVar 7) aNil))) (aCons eDict0 aNil))))))))) aNil))) rfl (fa__law_used_right_1) rfl (by rw [noHs_cons, noHs_nil, noH_lst, (okItems_of (it__law_used_right_1)).2.2]; rfl) (okItems_of (it__law_used_right_1)).2.2
  replace e1 : eCalB 2 f__law_one_of [] (aCons (eVar 0) (aCons (eFz (fLst (aCons (eC .non) (aCons (eC (.int 3)) (aCons (eC (.str "x")) (aCons (eTup (aCons (eC (.int 1)) aNil)) (aCons (eVar 5) (aCons (eFz (fLst (aCons (eVar 7) aNil))) (aCons eDict0 aNil))))))))) aNil)) [(some (.hnd 0)), none, none, none, none, (some ln), (some ln2), (some one), none, none] [.lst B] = .ok o [.lst B1] := e1
  obtain ⟨n, B2, e2, hb2, h_n⟩ := Draws.evH (Draws.one (it__law_used_right_2)) hb1 (n := 2) (h := 0) (sd := [(some (.hnd 0)), (some o), none, none, none, (some ln), (some ln2), (some one), none, none]) (st := [.lst B1]) (fa := (aCons (eVar 0) (aCons (eFz (fLst (aCons (eC .non) (aCons (eC (.int 0)) (aCons (eC (.str "D")) (aCons (eTup (aCons (eVar 7) aNil)) (aCons (eVar 7) (aCons (eFz (fLst (aCons (eVar 5) aNil))) (aCons eDict0 aNil))))))))) aNil))) rfl (fa__law_used_right_2) rfl (by rw [noHs_cons, noHs_nil, noH_lst, (okItems_of (it__law_used_right_2)).2.2]; rfl) (okItems_of (it__law_used_right_2)).2.2
  replace e2 : eCalB 2 f__law_one_of [] (aCons (eVar 0) (aCons (eFz (fLst (aCons (eC .non) (aCons (eC (.int 0)) (aCons (eC (.str "D")) (aCons (eTup (aCons (eVar 7) aNil)) (aCons (eVar 7) (aCons (eFz (fLst (aCons (eVar 5) aNil))) (aCons eDict0 aNil))))))))) aNil)) [(some (.hnd 0)), (some o), none, none, none, (some ln), (some ln2), (some one), none, none] [.lst B1] = .ok n [.lst B2] := e2
  obtain ⟨v, B3, e3, hb3, h_v⟩ := Draws.evH (Draws.one (it__law_used_right_3)) hb2 (n := 2) (h := 0) (sd := [(some (.hnd 0)), (some o), (some n), none, none, (some ln), (some ln2), (some one), none, none]) (st := [.lst B2]) (fa := (aCons (eVar 0) (aCons (eFz (fLst (aCons (eC .non) (aCons (eUn negD (eC (.int 1))) (aCons (eC (.int 1001)) (aCons (eC (.bl true)) (aCons (eC (.str "1")) (aCons (eTup (aCons (eC (.int 1)) aNil)) (aCons (eOBT [("Operator", f_Operator___pow__)] (ints2 powI) (eC (.int 10)) (eC (.int 60))) aNil))))))))) aNil))) rfl (fa__law_used_right_3) rfl (by rw [noHs_cons, noHs_nil, noH_lst, (okItems_of (it__law_used_right_3)).2.2]; rfl) (okItems_of (it__law_used_right_3)).2.2
  replace e3 : eCalB 2 f__law_one_of [] (aCons (eVar 0) (aCons (eFz (fLst (aCons (eC .non) (aCons (eUn negD (eC (.int 1))) (aCons (eC (.int 1001)) (aCons (eC (.bl true)) (aCons (eC (.str "1")) (aCons (eTup (aCons (eC (.int 1)) aNil)) (aCons (eOBT [("Operator", f_Operator___pow__)] (ints2 powI) (eC (.int 10)) (eC (.int 60))) aNil))))))))) aNil)) [(some (.hnd 0)), (some o), (some n), none, none, (some ln), (some ln2), (some one), none, none] [.lst B2] = .ok v [.lst B3] := e3
  refine ⟨.bl true, B3, [(some (.hnd 0)), (some o), (some n), (some v), (some (.lst (lamItems 0 [.str "function", .str "operation", .str "function", .str "operation", numS v, .str "fine", .str "operation", .str "operation", .str "operation", .str "operation", .str "number 9", .str "fine", .str "operator", .str "operator", .str "operation", .str "operator", .str "operator", .str "function", .str "operation", .str "fine"]))), (some ln), (some ln2), (some one), none, none], [], ?_, hb3, List.mem_singleton.mpr rfl⟩
  show n__law_used_right [(some (.hnd 0)), none, none, none, none, none, none, none, none, none] [.lst B] = _
  unfold n__law_used_right
  refine sq_nx (st__law_used_right_1) ?_
  refine sq_nx (st__law_used_right_2 e1) ?_
  refine sq_nx (st__law_used_right_3 e2) ?_
  refine sq_nx (st__law_used_right_4 e3) ?_
  exact (sq_rt (lams_ret (i := 4) (jc := 8) (jd := 9) (sd := [(some (.hnd 0)), (some o), (some n), (some v), none, (some ln), (some ln2), (some one), none, none]) (sdC := [(some (.hnd 0)), (some o), (some n), (some v), none, (some ln), (some ln2), (some one), none, none]) (st := [.lst B3]) (ds := [.str "function", .str "operation", .str "function", .str "operation", numS v, .str "fine", .str "operation", .str "operation", .str "operation", .str "operation", .str "number 9", .str "fine", .str "operator", .str "operator", .str "operation", .str "operator", .str "operator", .str "function", .str "operation", .str "fine"]) (du__law_used_right_5 h_v) (by show 20 < lineN; decide) (by decide) (by show 4 < 10; decide) (by show 8 < 10; decide) (by show 9 < 10; decide) (by obtain ⟨ba, bb, bc, rfl⟩ := hb3; rfl) (clean_of (sd := wipeD ([(some (.hnd 0)), (some o), (some n), (some v), none, (some ln), (some ln2), (some one), none, none].set 4 (some (.lst (lamItems 0 [.str "function", .str "operation", .str "function", .str "operation", numS v, .str "fine", .str "operation", .str "operation", .str "operation", .str "operation", .str "number 9", .str "fine", .str "operator", .str "operator", .str "operation", .str "operator", .str "operator", .str "function", .str "operation", .str "fine"])))) [8, 9]) (sd' := [(some (.hnd 0)), (some o), (some n), (some v), none, (some ln), (some ln2), (some one), none, none]) ⟨⟨rfl, rfl⟩, ⟨⟨rfl, (nf__law_used_right_26 h_o)⟩, ⟨⟨rfl, (nf__law_used_right_27 h_n)⟩, ⟨⟨rfl, (nf__law_used_right_28 h_v)⟩, ⟨rfl, ⟨⟨rfl, rfl⟩, ⟨⟨rfl, rfl⟩, ⟨⟨rfl, rfl⟩, True.intro⟩⟩⟩⟩⟩⟩⟩⟩) ⟨(pt__law_used_right_6 h_o), ⟨(pt__law_used_right_7), ⟨(pt__law_used_right_8 h_o), ⟨(pt__law_used_right_9), ⟨(pt__law_used_right_10 h_v), ⟨(pt__law_used_right_11), ⟨(pt__law_used_right_12), ⟨(pt__law_used_right_13), ⟨(pt__law_used_right_14), ⟨(pt__law_used_right_15), ⟨(pt__law_used_right_16), ⟨(pt__law_used_right_17), ⟨(pt__law_used_right_18 h_n), ⟨(pt__law_used_right_19 h_n), ⟨(pt__law_used_right_20), ⟨(pt__law_used_right_21 h_n), ⟨(pt__law_used_right_22 h_o h_n), ⟨(pt__law_used_right_23 h_o), ⟨(pt__law_used_right_24), ⟨(pt__law_used_right_25), True.intro⟩⟩⟩⟩⟩⟩⟩⟩⟩⟩⟩⟩⟩⟩⟩⟩⟩⟩⟩⟩))) rfl
end Gn
namespace Gn
open PySem PySem.Spec PyProof.Rows L2 DS Pm
theorem fa_lawb0_1 {o0 : Option D} {o1 : Option D} {B : List D} : ((aCons (eVar 2) aNil) : EA) [o0, o1, (some (.hnd 0))] [.lst B] = Res.ok [.hnd 0] [.lst B] := by
  kernel_rfl
theorem it_lawb0_1 : okItems badT = true := by
  kernel_rfl
theorem fa_lawb0_2 {o0 : Option D} {o1 : Option D} {B : List D} : ((aCons (eVar 2) aNil) : EA) [o0, o1, (some (.hnd 0))] [.lst B] = Res.ok [.hnd 0] [.lst B] := by
  kernel_rfl
theorem it_lawb0_2 : okItems badT = true := by
  kernel_rfl
theorem st_lawb0_1h0 {o0 : Option D} {o1 : Option D} {B : List D} {B1 : List D} {B2 : List D} {G0 : EE} {G1 : EE} : ((sIf (eOr (eNot (eTest G0)) (eNot (eTest G1))) (sRet (eC (.bl false))) sNext) : SS) [o0, o1, (some (.hnd 0))] [.lst B] = ((sIf (eOr (eNot (eTest (fun _ _ => G0 [o0, o1, (some (.hnd 0))] [.lst B]))) (eNot (eTest G1))) (sRet (eC (.bl false))) sNext) : SS) [o0, o1, (some (.hnd 0))] [.lst B] := by
  kernel_rfl
theorem st_lawb0_1h1 {o0 : Option D} {o1 : Option D} {B : List D} {B1 : List D} {B2 : List D} {G1 : EE} {a : D} (h_a : a ∈ badT) : ((sIf (eOr (eNot (eTest (fun _ _ => Res.ok a [.lst B1]))) (eNot (eTest G1))) (sRet (eC (.bl false))) sNext) : SS) [o0, o1, (some (.hnd 0))] [.lst B] = ((sIf (eOr (eNot (eTest (fun _ _ => Res.ok a [.lst B1]))) (eNot (eTest (fun _ _ => G1 [o0, o1, (some (.hnd 0))] [.lst B1])))) (sRet (eC (.bl false))) sNext) : SS) [o0, o1, (some (.hnd 0))] [.lst B] := by
  have z : mapA (fun a : D => ((sIf (eOr (eNot (eTest (fun _ _ => Res.ok a [.lst B1]))) (eNot (eTest G1))) (sRet (eC (.bl false))) sNext) : SS) [o0, o1, (some (.hnd 0))] [.lst B]) (badT) = mapB (fun a : D => ((sIf (eOr (eNot (eTest (fun _ _ => Res.ok a [.lst B1]))) (eNot (eTest (fun _ _ => G1 [o0, o1, (some (.hnd 0))] [.lst B1])))) (sRet (eC (.bl false))) sNext) : SS) [o0, o1, (some (.hnd 0))] [.lst B]) (badT) := by kernel_rfl
  exact (all_eq z h_a)
theorem st_lawb0_1e {o0 : Option D} {o1 : Option D} {B : List D} {B1 : List D} {B2 : List D} {a : D} (h_a : a ∈ badT) {b : D} (h_b : b ∈ badT) : ((sIf (eOr (eNot (eTest (fun _ _ => Res.ok a [.lst B1]))) (eNot (eTest (fun _ _ => Res.ok b [.lst B2])))) (sRet (eC (.bl false))) sNext) : SS) [o0, o1, (some (.hnd 0))] [.lst B] = SR.go .nx [o0, o1, (some (.hnd 0))] [.lst B2] := by
  have z : mapA (fun a : D => mapA (fun b : D => ((sIf (eOr (eNot (eTest (fun _ _ => Res.ok a [.lst B1]))) (eNot (eTest (fun _ _ => Res.ok b [.lst B2])))) (sRet (eC (.bl false))) sNext) : SS) [o0, o1, (some (.hnd 0))] [.lst B]) (badT)) (badT) = mapB (fun a : D => mapB (fun b : D => SR.go .nx [o0, o1, (some (.hnd 0))] [.lst B2]) (badT)) (badT) := by kernel_rfl
  exact (all_eq (all_eq z h_a) h_b)
theorem st_lawb0_1 {o0 : Option D} {o1 : Option D} {B : List D} {B1 : List D} {B2 : List D} {a : D} (h_a : a ∈ badT) {b : D} (h_b : b ∈ badT) (e1 : (eCalB 1 f__law_made_right [] (aCons (eVar 2) aNil)) [o0, o1, (some (.hnd 0))] [.lst B] = .ok a [.lst B1]) (e2 : (eCalB 1 f__law_used_right [] (aCons (eVar 2) aNil)) [o0, o1, (some (.hnd 0))] [.lst B1] = .ok b [.lst B2]) : ((sIf (eOr (eNot (eTest (eCalB 1 f__law_made_right [] (aCons (eVar 2) aNil)))) (eNot (eTest (eCalB 1 f__law_used_right [] (aCons (eVar 2) aNil))))) (sRet (eC (.bl false))) sNext) : SS) [o0, o1, (some (.hnd 0))] [.lst B] = SR.go .nx [o0, o1, (some (.hnd 0))] [.lst B2] := by
  have r0 := st_lawb0_1h0 (G0 := (eCalB 1 f__law_made_right [] (aCons (eVar 2) aNil))) (G1 := (eCalB 1 f__law_used_right [] (aCons (eVar 2) aNil))) (o0 := o0) (o1 := o1) (B := B) (B1 := B1) (B2 := B2)
  rw [e1] at r0
  have r1 := st_lawb0_1h1 (G1 := (eCalB 1 f__law_used_right [] (aCons (eVar 2) aNil))) (o0 := o0) (o1 := o1) (B := B) (B1 := B1) (B2 := B2) h_a
  rw [e2] at r1
  exact (r0).trans ((r1).trans ((st_lawb0_1e h_a h_b)))
theorem body0 {ns : List Int} {o2 : Option D} : ∃ sd2 st2, (y_law_1 : SS) [(some (.scr (ns.map D.int))), (some (.int 0)), o2] [] = .go .nx sd2 st2 ∧ (∃ o1 o2 : Option D, sd2 = [(some (.scr (ns.map D.int))), o1, o2]) ∧ st2.length = 1 := by
  obtain ⟨B, hb, e0⟩ := set_bag (ns := ns) (sp := 1) (k := 0) (j := 2) (sd := [(some (.scr (ns.map D.int))), (some (.int 0)), o2]) (st := []) rfl rfl
  replace e0 : (sSet 2 (eHnd (fCal 2 f__law_bag [] (aCons (eVar 0) (aCons (eVar 1) aNil))))) [(some (.scr (ns.map D.int))), (some (.int 0)), o2] [] = .go .nx [(some (.scr (ns.map D.int))), (some (.int 0)), (some (.hnd 0))] [.lst B] := e0
  obtain ⟨a, B1, e1, hb1, h_a⟩ := Draws.evH D__law_made_right hb (n := 1) (h := 0) (sd := [(some (.scr (ns.map D.int))), (some (.int 0)), (some (.hnd 0))]) (st := [.lst B]) (fa := (aCons (eVar 2) aNil)) rfl (fa_lawb0_1) rfl rfl (okItems_of (it_lawb0_1)).2.2
  replace e1 : eCalB 1 f__law_made_right [] (aCons (eVar 2) aNil) [(some (.scr (ns.map D.int))), (some (.int 0)), (some (.hnd 0))] [.lst B] = .ok a [.lst B1] := e1
  obtain ⟨b, B2, e2, hb2, h_b⟩ := Draws.evH D__law_used_right hb1 (n := 1) (h := 0) (sd := [(some (.scr (ns.map D.int))), (some (.int 0)), (some (.hnd 0))]) (st := [.lst B1]) (fa := (aCons (eVar 2) aNil)) rfl (fa_lawb0_2) rfl rfl (okItems_of (it_lawb0_2)).2.2
  replace e2 : eCalB 1 f__law_used_right [] (aCons (eVar 2) aNil) [(some (.scr (ns.map D.int))), (some (.int 0)), (some (.hnd 0))] [.lst B1] = .ok b [.lst B2] := e2
  refine ⟨[(some (.scr (ns.map D.int))), (some (.int 0)), (some (.hnd 0))], [.lst B2], ?_, ⟨_, _, rfl⟩, rfl⟩
  unfold y_law_1
  refine sq_nx e0 ?_
  exact (st_lawb0_1 h_a h_b e1 e2)
theorem fa_lawb1_1 {o0 : Option D} {o1 : Option D} {c0 : Cell} {B : List D} : ((aCons (eVar 2) aNil) : EA) [o0, o1, (some (.hnd 1))] [c0, .lst B] = Res.ok [.hnd 1] [c0, .lst B] := by
  kernel_rfl
theorem it_lawb1_1 : okItems badT = true := by
  kernel_rfl
theorem fa_lawb1_2 {o0 : Option D} {o1 : Option D} {c0 : Cell} {B : List D} : ((aCons (eVar 2) aNil) : EA) [o0, o1, (some (.hnd 1))] [c0, .lst B] = Res.ok [.hnd 1] [c0, .lst B] := by
  kernel_rfl
theorem it_lawb1_2 : okItems badT = true := by
  kernel_rfl
theorem st_lawb1_1h0 {o0 : Option D} {o1 : Option D} {c0 : Cell} {B : List D} {B1 : List D} {B2 : List D} {G0 : EE} {G1 : EE} : ((sIf (eOr (eNot (eTest G0)) (eNot (eTest G1))) (sRet (eC (.bl false))) sNext) : SS) [o0, o1, (some (.hnd 1))] [c0, .lst B] = ((sIf (eOr (eNot (eTest (fun _ _ => G0 [o0, o1, (some (.hnd 1))] [c0, .lst B]))) (eNot (eTest G1))) (sRet (eC (.bl false))) sNext) : SS) [o0, o1, (some (.hnd 1))] [c0, .lst B] := by
  kernel_rfl
theorem st_lawb1_1h1 {o0 : Option D} {o1 : Option D} {c0 : Cell} {B : List D} {B1 : List D} {B2 : List D} {G1 : EE} {a : D} (h_a : a ∈ badT) : ((sIf (eOr (eNot (eTest (fun _ _ => Res.ok a [c0, .lst B1]))) (eNot (eTest G1))) (sRet (eC (.bl false))) sNext) : SS) [o0, o1, (some (.hnd 1))] [c0, .lst B] = ((sIf (eOr (eNot (eTest (fun _ _ => Res.ok a [c0, .lst B1]))) (eNot (eTest (fun _ _ => G1 [o0, o1, (some (.hnd 1))] [c0, .lst B1])))) (sRet (eC (.bl false))) sNext) : SS) [o0, o1, (some (.hnd 1))] [c0, .lst B] := by
  have z : mapA (fun a : D => ((sIf (eOr (eNot (eTest (fun _ _ => Res.ok a [c0, .lst B1]))) (eNot (eTest G1))) (sRet (eC (.bl false))) sNext) : SS) [o0, o1, (some (.hnd 1))] [c0, .lst B]) (badT) = mapB (fun a : D => ((sIf (eOr (eNot (eTest (fun _ _ => Res.ok a [c0, .lst B1]))) (eNot (eTest (fun _ _ => G1 [o0, o1, (some (.hnd 1))] [c0, .lst B1])))) (sRet (eC (.bl false))) sNext) : SS) [o0, o1, (some (.hnd 1))] [c0, .lst B]) (badT) := by kernel_rfl
  exact (all_eq z h_a)
theorem st_lawb1_1e {o0 : Option D} {o1 : Option D} {c0 : Cell} {B : List D} {B1 : List D} {B2 : List D} {a : D} (h_a : a ∈ badT) {b : D} (h_b : b ∈ badT) : ((sIf (eOr (eNot (eTest (fun _ _ => Res.ok a [c0, .lst B1]))) (eNot (eTest (fun _ _ => Res.ok b [c0, .lst B2])))) (sRet (eC (.bl false))) sNext) : SS) [o0, o1, (some (.hnd 1))] [c0, .lst B] = SR.go .nx [o0, o1, (some (.hnd 1))] [c0, .lst B2] := by
  have z : mapA (fun a : D => mapA (fun b : D => ((sIf (eOr (eNot (eTest (fun _ _ => Res.ok a [c0, .lst B1]))) (eNot (eTest (fun _ _ => Res.ok b [c0, .lst B2])))) (sRet (eC (.bl false))) sNext) : SS) [o0, o1, (some (.hnd 1))] [c0, .lst B]) (badT)) (badT) = mapB (fun a : D => mapB (fun b : D => SR.go .nx [o0, o1, (some (.hnd 1))] [c0, .lst B2]) (badT)) (badT) := by kernel_rfl
  exact (all_eq (all_eq z h_a) h_b)
theorem st_lawb1_1 {o0 : Option D} {o1 : Option D} {c0 : Cell} {B : List D} {B1 : List D} {B2 : List D} {a : D} (h_a : a ∈ badT) {b : D} (h_b : b ∈ badT) (e1 : (eCalB 1 f__law_made_right [] (aCons (eVar 2) aNil)) [o0, o1, (some (.hnd 1))] [c0, .lst B] = .ok a [c0, .lst B1]) (e2 : (eCalB 1 f__law_used_right [] (aCons (eVar 2) aNil)) [o0, o1, (some (.hnd 1))] [c0, .lst B1] = .ok b [c0, .lst B2]) : ((sIf (eOr (eNot (eTest (eCalB 1 f__law_made_right [] (aCons (eVar 2) aNil)))) (eNot (eTest (eCalB 1 f__law_used_right [] (aCons (eVar 2) aNil))))) (sRet (eC (.bl false))) sNext) : SS) [o0, o1, (some (.hnd 1))] [c0, .lst B] = SR.go .nx [o0, o1, (some (.hnd 1))] [c0, .lst B2] := by
  have r0 := st_lawb1_1h0 (G0 := (eCalB 1 f__law_made_right [] (aCons (eVar 2) aNil))) (G1 := (eCalB 1 f__law_used_right [] (aCons (eVar 2) aNil))) (o0 := o0) (o1 := o1) (c0 := c0) (B := B) (B1 := B1) (B2 := B2)
  rw [e1] at r0
  have r1 := st_lawb1_1h1 (G1 := (eCalB 1 f__law_used_right [] (aCons (eVar 2) aNil))) (o0 := o0) (o1 := o1) (c0 := c0) (B := B) (B1 := B1) (B2 := B2) h_a
  rw [e2] at r1
  exact (r0).trans ((r1).trans ((st_lawb1_1e h_a h_b)))
theorem body1 {ns : List Int} {o2 : Option D} {c0 : Cell} : ∃ sd2 st2, (y_law_1 : SS) [(some (.scr (ns.map D.int))), (some (.int 1)), o2] [c0] = .go .nx sd2 st2 ∧ (∃ o1 o2 : Option D, sd2 = [(some (.scr (ns.map D.int))), o1, o2]) ∧ st2.length = 2 := by
  obtain ⟨B, hb, e0⟩ := set_bag (ns := ns) (sp := 1) (k := 1) (j := 2) (sd := [(some (.scr (ns.map D.int))), (some (.int 1)), o2]) (st := [c0]) rfl rfl
  replace e0 : (sSet 2 (eHnd (fCal 2 f__law_bag [] (aCons (eVar 0) (aCons (eVar 1) aNil))))) [(some (.scr (ns.map D.int))), (some (.int 1)), o2] [c0] = .go .nx [(some (.scr (ns.map D.int))), (some (.int 1)), (some (.hnd 1))] [c0, .lst B] := e0
  obtain ⟨a, B1, e1, hb1, h_a⟩ := Draws.evH D__law_made_right hb (n := 1) (h := 1) (sd := [(some (.scr (ns.map D.int))), (some (.int 1)), (some (.hnd 1))]) (st := [c0, .lst B]) (fa := (aCons (eVar 2) aNil)) rfl (fa_lawb1_1) rfl rfl (okItems_of (it_lawb1_1)).2.2
  replace e1 : eCalB 1 f__law_made_right [] (aCons (eVar 2) aNil) [(some (.scr (ns.map D.int))), (some (.int 1)), (some (.hnd 1))] [c0, .lst B] = .ok a [c0, .lst B1] := e1
  obtain ⟨b, B2, e2, hb2, h_b⟩ := Draws.evH D__law_used_right hb1 (n := 1) (h := 1) (sd := [(some (.scr (ns.map D.int))), (some (.int 1)), (some (.hnd 1))]) (st := [c0, .lst B1]) (fa := (aCons (eVar 2) aNil)) rfl (fa_lawb1_2) rfl rfl (okItems_of (it_lawb1_2)).2.2
  replace e2 : eCalB 1 f__law_used_right [] (aCons (eVar 2) aNil) [(some (.scr (ns.map D.int))), (some (.int 1)), (some (.hnd 1))] [c0, .lst B1] = .ok b [c0, .lst B2] := e2
  refine ⟨[(some (.scr (ns.map D.int))), (some (.int 1)), (some (.hnd 1))], [c0, .lst B2], ?_, ⟨_, _, rfl⟩, rfl⟩
  unfold y_law_1
  refine sq_nx e0 ?_
  exact (st_lawb1_1 h_a h_b e1 e2)
theorem fa_lawb2_1 {o0 : Option D} {o1 : Option D} {c0 : Cell} {c1 : Cell} {B : List D} : ((aCons (eVar 2) aNil) : EA) [o0, o1, (some (.hnd 2))] [c0, c1, .lst B] = Res.ok [.hnd 2] [c0, c1, .lst B] := by
  kernel_rfl
theorem it_lawb2_1 : okItems badT = true := by
  kernel_rfl
theorem fa_lawb2_2 {o0 : Option D} {o1 : Option D} {c0 : Cell} {c1 : Cell} {B : List D} : ((aCons (eVar 2) aNil) : EA) [o0, o1, (some (.hnd 2))] [c0, c1, .lst B] = Res.ok [.hnd 2] [c0, c1, .lst B] := by
  kernel_rfl
theorem it_lawb2_2 : okItems badT = true := by
  kernel_rfl
theorem st_lawb2_1h0 {o0 : Option D} {o1 : Option D} {c0 : Cell} {c1 : Cell} {B : List D} {B1 : List D} {B2 : List D} {G0 : EE} {G1 : EE} : ((sIf (eOr (eNot (eTest G0)) (eNot (eTest G1))) (sRet (eC (.bl false))) sNext) : SS) [o0, o1, (some (.hnd 2))] [c0, c1, .lst B] = ((sIf (eOr (eNot (eTest (fun _ _ => G0 [o0, o1, (some (.hnd 2))] [c0, c1, .lst B]))) (eNot (eTest G1))) (sRet (eC (.bl false))) sNext) : SS) [o0, o1, (some (.hnd 2))] [c0, c1, .lst B] := by
  kernel_rfl
theorem st_lawb2_1h1 {o0 : Option D} {o1 : Option D} {c0 : Cell} {c1 : Cell} {B : List D} {B1 : List D} {B2 : List D} {G1 : EE} {a : D} (h_a : a ∈ badT) : ((sIf (eOr (eNot (eTest (fun _ _ => Res.ok a [c0, c1, .lst B1]))) (eNot (eTest G1))) (sRet (eC (.bl false))) sNext) : SS) [o0, o1, (some (.hnd 2))] [c0, c1, .lst B] = ((sIf (eOr (eNot (eTest (fun _ _ => Res.ok a [c0, c1, .lst B1]))) (eNot (eTest (fun _ _ => G1 [o0, o1, (some (.hnd 2))] [c0, c1, .lst B1])))) (sRet (eC (.bl false))) sNext) : SS) [o0, o1, (some (.hnd 2))] [c0, c1, .lst B] := by
  have z : mapA (fun a : D => ((sIf (eOr (eNot (eTest (fun _ _ => Res.ok a [c0, c1, .lst B1]))) (eNot (eTest G1))) (sRet (eC (.bl false))) sNext) : SS) [o0, o1, (some (.hnd 2))] [c0, c1, .lst B]) (badT) = mapB (fun a : D => ((sIf (eOr (eNot (eTest (fun _ _ => Res.ok a [c0, c1, .lst B1]))) (eNot (eTest (fun _ _ => G1 [o0, o1, (some (.hnd 2))] [c0, c1, .lst B1])))) (sRet (eC (.bl false))) sNext) : SS) [o0, o1, (some (.hnd 2))] [c0, c1, .lst B]) (badT) := by kernel_rfl
  exact (all_eq z h_a)
theorem st_lawb2_1e {o0 : Option D} {o1 : Option D} {c0 : Cell} {c1 : Cell} {B : List D} {B1 : List D} {B2 : List D} {a : D} (h_a : a ∈ badT) {b : D} (h_b : b ∈ badT) : ((sIf (eOr (eNot (eTest (fun _ _ => Res.ok a [c0, c1, .lst B1]))) (eNot (eTest (fun _ _ => Res.ok b [c0, c1, .lst B2])))) (sRet (eC (.bl false))) sNext) : SS) [o0, o1, (some (.hnd 2))] [c0, c1, .lst B] = SR.go .nx [o0, o1, (some (.hnd 2))] [c0, c1, .lst B2] := by
  have z : mapA (fun a : D => mapA (fun b : D => ((sIf (eOr (eNot (eTest (fun _ _ => Res.ok a [c0, c1, .lst B1]))) (eNot (eTest (fun _ _ => Res.ok b [c0, c1, .lst B2])))) (sRet (eC (.bl false))) sNext) : SS) [o0, o1, (some (.hnd 2))] [c0, c1, .lst B]) (badT)) (badT) = mapB (fun a : D => mapB (fun b : D => SR.go .nx [o0, o1, (some (.hnd 2))] [c0, c1, .lst B2]) (badT)) (badT) := by kernel_rfl
  exact (all_eq (all_eq z h_a) h_b)
theorem st_lawb2_1 {o0 : Option D} {o1 : Option D} {c0 : Cell} {c1 : Cell} {B : List D} {B1 : List D} {B2 : List D} {a : D} (h_a : a ∈ badT) {b : D} (h_b : b ∈ badT) (e1 : (eCalB 1 f__law_made_right [] (aCons (eVar 2) aNil)) [o0, o1, (some (.hnd 2))] [c0, c1, .lst B] = .ok a [c0, c1, .lst B1]) (e2 : (eCalB 1 f__law_used_right [] (aCons (eVar 2) aNil)) [o0, o1, (some (.hnd 2))] [c0, c1, .lst B1] = .ok b [c0, c1, .lst B2]) : ((sIf (eOr (eNot (eTest (eCalB 1 f__law_made_right [] (aCons (eVar 2) aNil)))) (eNot (eTest (eCalB 1 f__law_used_right [] (aCons (eVar 2) aNil))))) (sRet (eC (.bl false))) sNext) : SS) [o0, o1, (some (.hnd 2))] [c0, c1, .lst B] = SR.go .nx [o0, o1, (some (.hnd 2))] [c0, c1, .lst B2] := by
  have r0 := st_lawb2_1h0 (G0 := (eCalB 1 f__law_made_right [] (aCons (eVar 2) aNil))) (G1 := (eCalB 1 f__law_used_right [] (aCons (eVar 2) aNil))) (o0 := o0) (o1 := o1) (c0 := c0) (c1 := c1) (B := B) (B1 := B1) (B2 := B2)
  rw [e1] at r0
  have r1 := st_lawb2_1h1 (G1 := (eCalB 1 f__law_used_right [] (aCons (eVar 2) aNil))) (o0 := o0) (o1 := o1) (c0 := c0) (c1 := c1) (B := B) (B1 := B1) (B2 := B2) h_a
  rw [e2] at r1
  exact (r0).trans ((r1).trans ((st_lawb2_1e h_a h_b)))
theorem body2 {ns : List Int} {o2 : Option D} {c0 : Cell} {c1 : Cell} : ∃ sd2 st2, (y_law_1 : SS) [(some (.scr (ns.map D.int))), (some (.int 2)), o2] [c0, c1] = .go .nx sd2 st2 ∧ (∃ o1 o2 : Option D, sd2 = [(some (.scr (ns.map D.int))), o1, o2]) ∧ st2.length = 3 := by
  obtain ⟨B, hb, e0⟩ := set_bag (ns := ns) (sp := 1) (k := 2) (j := 2) (sd := [(some (.scr (ns.map D.int))), (some (.int 2)), o2]) (st := [c0, c1]) rfl rfl
  replace e0 : (sSet 2 (eHnd (fCal 2 f__law_bag [] (aCons (eVar 0) (aCons (eVar 1) aNil))))) [(some (.scr (ns.map D.int))), (some (.int 2)), o2] [c0, c1] = .go .nx [(some (.scr (ns.map D.int))), (some (.int 2)), (some (.hnd 2))] [c0, c1, .lst B] := e0
  obtain ⟨a, B1, e1, hb1, h_a⟩ := Draws.evH D__law_made_right hb (n := 1) (h := 2) (sd := [(some (.scr (ns.map D.int))), (some (.int 2)), (some (.hnd 2))]) (st := [c0, c1, .lst B]) (fa := (aCons (eVar 2) aNil)) rfl (fa_lawb2_1) rfl rfl (okItems_of (it_lawb2_1)).2.2
  replace e1 : eCalB 1 f__law_made_right [] (aCons (eVar 2) aNil) [(some (.scr (ns.map D.int))), (some (.int 2)), (some (.hnd 2))] [c0, c1, .lst B] = .ok a [c0, c1, .lst B1] := e1
  obtain ⟨b, B2, e2, hb2, h_b⟩ := Draws.evH D__law_used_right hb1 (n := 1) (h := 2) (sd := [(some (.scr (ns.map D.int))), (some (.int 2)), (some (.hnd 2))]) (st := [c0, c1, .lst B1]) (fa := (aCons (eVar 2) aNil)) rfl (fa_lawb2_2) rfl rfl (okItems_of (it_lawb2_2)).2.2
  replace e2 : eCalB 1 f__law_used_right [] (aCons (eVar 2) aNil) [(some (.scr (ns.map D.int))), (some (.int 2)), (some (.hnd 2))] [c0, c1, .lst B1] = .ok b [c0, c1, .lst B2] := e2
  refine ⟨[(some (.scr (ns.map D.int))), (some (.int 2)), (some (.hnd 2))], [c0, c1, .lst B2], ?_, ⟨_, _, rfl⟩, rfl⟩
  unfold y_law_1
  refine sq_nx e0 ?_
  exact (st_lawb2_1 h_a h_b e1 e2)
theorem fa_lawb3_1 {o0 : Option D} {o1 : Option D} {c0 : Cell} {c1 : Cell} {c2 : Cell} {B : List D} : ((aCons (eVar 2) aNil) : EA) [o0, o1, (some (.hnd 3))] [c0, c1, c2, .lst B] = Res.ok [.hnd 3] [c0, c1, c2, .lst B] := by
  kernel_rfl
theorem it_lawb3_1 : okItems badT = true := by
  kernel_rfl
theorem fa_lawb3_2 {o0 : Option D} {o1 : Option D} {c0 : Cell} {c1 : Cell} {c2 : Cell} {B : List D} : ((aCons (eVar 2) aNil) : EA) [o0, o1, (some (.hnd 3))] [c0, c1, c2, .lst B] = Res.ok [.hnd 3] [c0, c1, c2, .lst B] := by
  kernel_rfl
theorem it_lawb3_2 : okItems badT = true := by
  kernel_rfl
theorem st_lawb3_1h0 {o0 : Option D} {o1 : Option D} {c0 : Cell} {c1 : Cell} {c2 : Cell} {B : List D} {B1 : List D} {B2 : List D} {G0 : EE} {G1 : EE} : ((sIf (eOr (eNot (eTest G0)) (eNot (eTest G1))) (sRet (eC (.bl false))) sNext) : SS) [o0, o1, (some (.hnd 3))] [c0, c1, c2, .lst B] = ((sIf (eOr (eNot (eTest (fun _ _ => G0 [o0, o1, (some (.hnd 3))] [c0, c1, c2, .lst B]))) (eNot (eTest G1))) (sRet (eC (.bl false))) sNext) : SS) [o0, o1, (some (.hnd 3))] [c0, c1, c2, .lst B] := by
  kernel_rfl
theorem st_lawb3_1h1 {o0 : Option D} {o1 : Option D} {c0 : Cell} {c1 : Cell} {c2 : Cell} {B : List D} {B1 : List D} {B2 : List D} {G1 : EE} {a : D} (h_a : a ∈ badT) : ((sIf (eOr (eNot (eTest (fun _ _ => Res.ok a [c0, c1, c2, .lst B1]))) (eNot (eTest G1))) (sRet (eC (.bl false))) sNext) : SS) [o0, o1, (some (.hnd 3))] [c0, c1, c2, .lst B] = ((sIf (eOr (eNot (eTest (fun _ _ => Res.ok a [c0, c1, c2, .lst B1]))) (eNot (eTest (fun _ _ => G1 [o0, o1, (some (.hnd 3))] [c0, c1, c2, .lst B1])))) (sRet (eC (.bl false))) sNext) : SS) [o0, o1, (some (.hnd 3))] [c0, c1, c2, .lst B] := by
  have z : mapA (fun a : D => ((sIf (eOr (eNot (eTest (fun _ _ => Res.ok a [c0, c1, c2, .lst B1]))) (eNot (eTest G1))) (sRet (eC (.bl false))) sNext) : SS) [o0, o1, (some (.hnd 3))] [c0, c1, c2, .lst B]) (badT) = mapB (fun a : D => ((sIf (eOr (eNot (eTest (fun _ _ => Res.ok a [c0, c1, c2, .lst B1]))) (eNot (eTest (fun _ _ => G1 [o0, o1, (some (.hnd 3))] [c0, c1, c2, .lst B1])))) (sRet (eC (.bl false))) sNext) : SS) [o0, o1, (some (.hnd 3))] [c0, c1, c2, .lst B]) (badT) := by kernel_rfl
  exact (all_eq z h_a)
theorem st_lawb3_1e {o0 : Option D} {o1 : Option D} {c0 : Cell} {c1 : Cell} {c2 : Cell} {B : List D} {B1 : List D} {B2 : List D} {a : D} (h_a : a ∈ badT) {b : D} (h_b : b ∈ badT) : ((sIf (eOr (eNot (eTest (fun _ _ => Res.ok a [c0, c1, c2, .lst B1]))) (eNot (eTest (fun _ _ => Res.ok b [c0, c1, c2, .lst B2])))) (sRet (eC (.bl false))) sNext) : SS) [o0, o1, (some (.hnd 3))] [c0, c1, c2, .lst B] = SR.go .nx [o0, o1, (some (.hnd 3))] [c0, c1, c2, .lst B2] := by
  have z : mapA (fun a : D => mapA (fun b : D => ((sIf (eOr (eNot (eTest (fun _ _ => Res.ok a [c0, c1, c2, .lst B1]))) (eNot (eTest (fun _ _ => Res.ok b [c0, c1, c2, .lst B2])))) (sRet (eC (.bl false))) sNext) : SS) [o0, o1, (some (.hnd 3))] [c0, c1, c2, .lst B]) (badT)) (badT) = mapB (fun a : D => mapB (fun b : D => SR.go .nx [o0, o1, (some (.hnd 3))] [c0, c1, c2, .lst B2]) (badT)) (badT) := by kernel_rfl
  exact (all_eq (all_eq z h_a) h_b)
theorem st_lawb3_1 {o0 : Option D} {o1 : Option D} {c0 : Cell} {c1 : Cell} {c2 : Cell} {B : List D} {B1 : List D} {B2 : List D} {a : D} (h_a : a ∈ badT) {b : D} (h_b : b ∈ badT) (e1 : (eCalB 1 f__law_made_right [] (aCons (eVar 2) aNil)) [o0, o1, (some (.hnd 3))] [c0, c1, c2, .lst B] = .ok a [c0, c1, c2, .lst B1]) (e2 : (eCalB 1 f__law_used_right [] (aCons (eVar 2) aNil)) [o0, o1, (some (.hnd 3))] [c0, c1, c2, .lst B1] = .ok b [c0, c1, c2, .lst B2]) : ((sIf (eOr (eNot (eTest (eCalB 1 f__law_made_right [] (aCons (eVar 2) aNil)))) (eNot (eTest (eCalB 1 f__law_used_right [] (aCons (eVar 2) aNil))))) (sRet (eC (.bl false))) sNext) : SS) [o0, o1, (some (.hnd 3))] [c0, c1, c2, .lst B] = SR.go .nx [o0, o1, (some (.hnd 3))] [c0, c1, c2, .lst B2] := by
  have r0 := st_lawb3_1h0 (G0 := (eCalB 1 f__law_made_right [] (aCons (eVar 2) aNil))) (G1 := (eCalB 1 f__law_used_right [] (aCons (eVar 2) aNil))) (o0 := o0) (o1 := o1) (c0 := c0) (c1 := c1) (c2 := c2) (B := B) (B1 := B1) (B2 := B2)
  rw [e1] at r0
  have r1 := st_lawb3_1h1 (G1 := (eCalB 1 f__law_used_right [] (aCons (eVar 2) aNil))) (o0 := o0) (o1 := o1) (c0 := c0) (c1 := c1) (c2 := c2) (B := B) (B1 := B1) (B2 := B2) h_a
  rw [e2] at r1
  exact (r0).trans ((r1).trans ((st_lawb3_1e h_a h_b)))
theorem body3 {ns : List Int} {o2 : Option D} {c0 : Cell} {c1 : Cell} {c2 : Cell} : ∃ sd2 st2, (y_law_1 : SS) [(some (.scr (ns.map D.int))), (some (.int 3)), o2] [c0, c1, c2] = .go .nx sd2 st2 ∧ (∃ o1 o2 : Option D, sd2 = [(some (.scr (ns.map D.int))), o1, o2]) ∧ st2.length = 4 := by
  obtain ⟨B, hb, e0⟩ := set_bag (ns := ns) (sp := 1) (k := 3) (j := 2) (sd := [(some (.scr (ns.map D.int))), (some (.int 3)), o2]) (st := [c0, c1, c2]) rfl rfl
  replace e0 : (sSet 2 (eHnd (fCal 2 f__law_bag [] (aCons (eVar 0) (aCons (eVar 1) aNil))))) [(some (.scr (ns.map D.int))), (some (.int 3)), o2] [c0, c1, c2] = .go .nx [(some (.scr (ns.map D.int))), (some (.int 3)), (some (.hnd 3))] [c0, c1, c2, .lst B] := e0
  obtain ⟨a, B1, e1, hb1, h_a⟩ := Draws.evH D__law_made_right hb (n := 1) (h := 3) (sd := [(some (.scr (ns.map D.int))), (some (.int 3)), (some (.hnd 3))]) (st := [c0, c1, c2, .lst B]) (fa := (aCons (eVar 2) aNil)) rfl (fa_lawb3_1) rfl rfl (okItems_of (it_lawb3_1)).2.2
  replace e1 : eCalB 1 f__law_made_right [] (aCons (eVar 2) aNil) [(some (.scr (ns.map D.int))), (some (.int 3)), (some (.hnd 3))] [c0, c1, c2, .lst B] = .ok a [c0, c1, c2, .lst B1] := e1
  obtain ⟨b, B2, e2, hb2, h_b⟩ := Draws.evH D__law_used_right hb1 (n := 1) (h := 3) (sd := [(some (.scr (ns.map D.int))), (some (.int 3)), (some (.hnd 3))]) (st := [c0, c1, c2, .lst B1]) (fa := (aCons (eVar 2) aNil)) rfl (fa_lawb3_2) rfl rfl (okItems_of (it_lawb3_2)).2.2
  replace e2 : eCalB 1 f__law_used_right [] (aCons (eVar 2) aNil) [(some (.scr (ns.map D.int))), (some (.int 3)), (some (.hnd 3))] [c0, c1, c2, .lst B1] = .ok b [c0, c1, c2, .lst B2] := e2
  refine ⟨[(some (.scr (ns.map D.int))), (some (.int 3)), (some (.hnd 3))], [c0, c1, c2, .lst B2], ?_, ⟨_, _, rfl⟩, rfl⟩
  unfold y_law_1
  refine sq_nx e0 ?_
  exact (st_lawb3_1 h_a h_b e1 e2)
theorem pt_lawe1_1 {o0 : Option D} {o1 : Option D} {o2 : Option D} {c0 : Cell} : ((eOE [("Operator", f_Operator___eq__)] false eqD (ePr [("Function", f_Function_degree), ("Operator", f_Operator_degree)] (eNew "Operator" ["own_entries", "own_prime"] 3 f_Operator___init__ (aCons (eC (.int 3)) (aCons (eTup aNil) aNil)))) (eUn negD (eC (.int 1)))) : EE) [o0, o1, o2] [c0] = Res.ok (.bl true) [c0] := by
  kernel_rfl
theorem pt_lawe1_2 {o0 : Option D} {o1 : Option D} {o2 : Option D} {c0 : Cell} : ((eOE [("Operator", f_Operator___eq__)] false eqD (eLenO [("Operator", f_Operator___len__)] (eMeC [("Operator", f_Operator_slopes)] 3 (eC (.glo "Operator")) (aCons (eC (.int 7)) (aCons (eC (.int 8)) aNil)))) (eC (.int 9))) : EE) [o0, o1, o2] [c0] = Res.ok (.bl true) [c0] := by
  kernel_rfl
theorem fin1 {ns : List Int} {o1 : Option D} {o2 : Option D} {c0 : Cell} : ∃ sd st, ((sRet (eAndV (eOE [("Operator", f_Operator___eq__)] false eqD (ePr [("Function", f_Function_degree), ("Operator", f_Operator_degree)] (eNew "Operator" ["own_entries", "own_prime"] 3 f_Operator___init__ (aCons (eC (.int 3)) (aCons (eTup aNil) aNil)))) (eUn negD (eC (.int 1)))) (eOE [("Operator", f_Operator___eq__)] false eqD (eLenO [("Operator", f_Operator___len__)] (eMeC [("Operator", f_Operator_slopes)] 3 (eC (.glo "Operator")) (aCons (eC (.int 7)) (aCons (eC (.int 8)) aNil)))) (eC (.int 9))))) : SS) [(some (.scr (ns.map D.int))), o1, o2] [c0] = .go (.ret (.bl true)) sd st := by
  refine ⟨[(some (.scr (ns.map D.int))), o1, o2], [c0], ?_⟩
  exact (ret_of (andT (pt_lawe1_1) (pt_lawe1_2)))
theorem pt_lawe2_1 {o0 : Option D} {o1 : Option D} {o2 : Option D} {c0 : Cell} {c1 : Cell} : ((eOE [("Operator", f_Operator___eq__)] false eqD (ePr [("Function", f_Function_degree), ("Operator", f_Operator_degree)] (eNew "Operator" ["own_entries", "own_prime"] 3 f_Operator___init__ (aCons (eC (.int 3)) (aCons (eTup aNil) aNil)))) (eUn negD (eC (.int 1)))) : EE) [o0, o1, o2] [c0, c1] = Res.ok (.bl true) [c0, c1] := by
  kernel_rfl
theorem pt_lawe2_2 {o0 : Option D} {o1 : Option D} {o2 : Option D} {c0 : Cell} {c1 : Cell} : ((eOE [("Operator", f_Operator___eq__)] false eqD (eLenO [("Operator", f_Operator___len__)] (eMeC [("Operator", f_Operator_slopes)] 3 (eC (.glo "Operator")) (aCons (eC (.int 7)) (aCons (eC (.int 8)) aNil)))) (eC (.int 9))) : EE) [o0, o1, o2] [c0, c1] = Res.ok (.bl true) [c0, c1] := by
  kernel_rfl
theorem fin2 {ns : List Int} {o1 : Option D} {o2 : Option D} {c0 : Cell} {c1 : Cell} : ∃ sd st, ((sRet (eAndV (eOE [("Operator", f_Operator___eq__)] false eqD (ePr [("Function", f_Function_degree), ("Operator", f_Operator_degree)] (eNew "Operator" ["own_entries", "own_prime"] 3 f_Operator___init__ (aCons (eC (.int 3)) (aCons (eTup aNil) aNil)))) (eUn negD (eC (.int 1)))) (eOE [("Operator", f_Operator___eq__)] false eqD (eLenO [("Operator", f_Operator___len__)] (eMeC [("Operator", f_Operator_slopes)] 3 (eC (.glo "Operator")) (aCons (eC (.int 7)) (aCons (eC (.int 8)) aNil)))) (eC (.int 9))))) : SS) [(some (.scr (ns.map D.int))), o1, o2] [c0, c1] = .go (.ret (.bl true)) sd st := by
  refine ⟨[(some (.scr (ns.map D.int))), o1, o2], [c0, c1], ?_⟩
  exact (ret_of (andT (pt_lawe2_1) (pt_lawe2_2)))
theorem pt_lawe3_1 {o0 : Option D} {o1 : Option D} {o2 : Option D} {c0 : Cell} {c1 : Cell} {c2 : Cell} : ((eOE [("Operator", f_Operator___eq__)] false eqD (ePr [("Function", f_Function_degree), ("Operator", f_Operator_degree)] (eNew "Operator" ["own_entries", "own_prime"] 3 f_Operator___init__ (aCons (eC (.int 3)) (aCons (eTup aNil) aNil)))) (eUn negD (eC (.int 1)))) : EE) [o0, o1, o2] [c0, c1, c2] = Res.ok (.bl true) [c0, c1, c2] := by
  kernel_rfl
theorem pt_lawe3_2 {o0 : Option D} {o1 : Option D} {o2 : Option D} {c0 : Cell} {c1 : Cell} {c2 : Cell} : ((eOE [("Operator", f_Operator___eq__)] false eqD (eLenO [("Operator", f_Operator___len__)] (eMeC [("Operator", f_Operator_slopes)] 3 (eC (.glo "Operator")) (aCons (eC (.int 7)) (aCons (eC (.int 8)) aNil)))) (eC (.int 9))) : EE) [o0, o1, o2] [c0, c1, c2] = Res.ok (.bl true) [c0, c1, c2] := by
  kernel_rfl
theorem fin3 {ns : List Int} {o1 : Option D} {o2 : Option D} {c0 : Cell} {c1 : Cell} {c2 : Cell} : ∃ sd st, ((sRet (eAndV (eOE [("Operator", f_Operator___eq__)] false eqD (ePr [("Function", f_Function_degree), ("Operator", f_Operator_degree)] (eNew "Operator" ["own_entries", "own_prime"] 3 f_Operator___init__ (aCons (eC (.int 3)) (aCons (eTup aNil) aNil)))) (eUn negD (eC (.int 1)))) (eOE [("Operator", f_Operator___eq__)] false eqD (eLenO [("Operator", f_Operator___len__)] (eMeC [("Operator", f_Operator_slopes)] 3 (eC (.glo "Operator")) (aCons (eC (.int 7)) (aCons (eC (.int 8)) aNil)))) (eC (.int 9))))) : SS) [(some (.scr (ns.map D.int))), o1, o2] [c0, c1, c2] = .go (.ret (.bl true)) sd st := by
  refine ⟨[(some (.scr (ns.map D.int))), o1, o2], [c0, c1, c2], ?_⟩
  exact (ret_of (andT (pt_lawe3_1) (pt_lawe3_2)))
theorem pt_lawe4_1 {o0 : Option D} {o1 : Option D} {o2 : Option D} {c0 : Cell} {c1 : Cell} {c2 : Cell} {c3 : Cell} : ((eOE [("Operator", f_Operator___eq__)] false eqD (ePr [("Function", f_Function_degree), ("Operator", f_Operator_degree)] (eNew "Operator" ["own_entries", "own_prime"] 3 f_Operator___init__ (aCons (eC (.int 3)) (aCons (eTup aNil) aNil)))) (eUn negD (eC (.int 1)))) : EE) [o0, o1, o2] [c0, c1, c2, c3] = Res.ok (.bl true) [c0, c1, c2, c3] := by
  kernel_rfl
theorem pt_lawe4_2 {o0 : Option D} {o1 : Option D} {o2 : Option D} {c0 : Cell} {c1 : Cell} {c2 : Cell} {c3 : Cell} : ((eOE [("Operator", f_Operator___eq__)] false eqD (eLenO [("Operator", f_Operator___len__)] (eMeC [("Operator", f_Operator_slopes)] 3 (eC (.glo "Operator")) (aCons (eC (.int 7)) (aCons (eC (.int 8)) aNil)))) (eC (.int 9))) : EE) [o0, o1, o2] [c0, c1, c2, c3] = Res.ok (.bl true) [c0, c1, c2, c3] := by
  kernel_rfl
theorem fin4 {ns : List Int} {o1 : Option D} {o2 : Option D} {c0 : Cell} {c1 : Cell} {c2 : Cell} {c3 : Cell} : ∃ sd st, ((sRet (eAndV (eOE [("Operator", f_Operator___eq__)] false eqD (ePr [("Function", f_Function_degree), ("Operator", f_Operator_degree)] (eNew "Operator" ["own_entries", "own_prime"] 3 f_Operator___init__ (aCons (eC (.int 3)) (aCons (eTup aNil) aNil)))) (eUn negD (eC (.int 1)))) (eOE [("Operator", f_Operator___eq__)] false eqD (eLenO [("Operator", f_Operator___len__)] (eMeC [("Operator", f_Operator_slopes)] 3 (eC (.glo "Operator")) (aCons (eC (.int 7)) (aCons (eC (.int 8)) aNil)))) (eC (.int 9))))) : SS) [(some (.scr (ns.map D.int))), o1, o2] [c0, c1, c2, c3] = .go (.ret (.bl true)) sd st := by
  refine ⟨[(some (.scr (ns.map D.int))), o1, o2], [c0, c1, c2, c3], ?_⟩
  exact (ret_of (andT (pt_lawe4_1) (pt_lawe4_2)))
theorem law_pure (ns : List Int) (h : ns.length ≤ 63) : f_law [] [.scr (ns.map D.int)] = .ok (.bl true) [] := by
  have e : ∃ sd st, n_law [(some (.scr (ns.map D.int))), none, none] [] = .go (.ret (.bl true)) sd st := by
    unfold n_law
    obtain ⟨N, sd2, st2, hN1, hN2, e, ⟨o1, o2, rfl⟩, hl⟩ := for_spots (K := 4) (by omega) (by omega) (ns := ns) (b := y_law_1) (r := [none, none]) (j := 1) (fun sd => ∃ o1 o2 : Option D, sd = [(some (.scr (ns.map D.int))), o1, o2]) ⟨_, _, rfl⟩ (by
      rintro i sd st hi hl ⟨o1, o2, rfl⟩
      have hi : i = 0 ∨ i = 1 ∨ i = 2 ∨ i = 3 := by omega
      rcases hi with rfl | rfl | rfl | rfl
      · obtain rfl := List.length_eq_zero_iff.mp hl
        exact body0
      · obtain ⟨c0, rfl⟩ := len1 hl
        exact body1
      · obtain ⟨c0, c1, rfl⟩ := len2 hl
        exact body2
      · obtain ⟨c0, c1, c2, rfl⟩ := len3 hl
        exact body3)
    replace e : w_law_1 [(some (.scr (ns.map D.int))), none, none] [] = .go .nx [(some (.scr (ns.map D.int))), o1, o2] st2 := e
    have hN : N = 1 ∨ N = 2 ∨ N = 3 ∨ N = 4 := by omega
    rcases hN with rfl | rfl | rfl | rfl
    · obtain ⟨c0, rfl⟩ := len1 hl
      obtain ⟨sd, st, e2⟩ := fin1 (ns := ns) (o1 := o1) (o2 := o2) (c0 := c0)
      exact ⟨sd, st, (sq_nx e e2)⟩
    · obtain ⟨c0, c1, rfl⟩ := len2 hl
      obtain ⟨sd, st, e2⟩ := fin2 (ns := ns) (o1 := o1) (o2 := o2) (c0 := c0) (c1 := c1)
      exact ⟨sd, st, (sq_nx e e2)⟩
    · obtain ⟨c0, c1, c2, rfl⟩ := len3 hl
      obtain ⟨sd, st, e2⟩ := fin3 (ns := ns) (o1 := o1) (o2 := o2) (c0 := c0) (c1 := c1) (c2 := c2)
      exact ⟨sd, st, (sq_nx e e2)⟩
    · obtain ⟨c0, c1, c2, c3, rfl⟩ := len4 hl
      obtain ⟨sd, st, e2⟩ := fin4 (ns := ns) (o1 := o1) (o2 := o2) (c0 := c0) (c1 := c1) (c2 := c2) (c3 := c3)
      exact ⟨sd, st, (sq_nx e e2)⟩
  obtain ⟨sd, st, e⟩ := e
  refine fn_ret ?_ rfl
  show retD (n_law [(some (.scr (ns.map D.int))), none, none] []) = _
  rw [e]
  rfl
end Gn
namespace Gn
open PySem PySem.Spec PyProof.Rows L2 DS
theorem sc_is_whole : FnScope N_is_whole P_is_whole S_is_whole := ⟨rfl, rfl, rfl, by decide +kernel, rfl, by decide +kernel, by decide +kernel⟩
theorem sc_undone_number : FnScope N_undone_number P_undone_number S_undone_number := ⟨rfl, rfl, rfl, by decide +kernel, rfl, by decide +kernel, by decide +kernel⟩
theorem sc_trimmed : FnScope N_trimmed P_trimmed S_trimmed := ⟨rfl, rfl, rfl, by decide +kernel, rfl, by decide +kernel, by decide +kernel⟩
theorem sc_number_at : FnScope N_number_at P_number_at S_number_at := ⟨rfl, rfl, rfl, by decide +kernel, rfl, by decide +kernel, by decide +kernel⟩
theorem sc_Lowest___init__ : FnScope N_Lowest___init__ P_Lowest___init__ S_Lowest___init__ := ⟨rfl, rfl, rfl, by decide +kernel, rfl, by decide +kernel, by decide +kernel⟩
theorem sc_Function_degree : FnScope N_Function_degree P_Function_degree S_Function_degree := ⟨rfl, rfl, rfl, by decide +kernel, rfl, by decide +kernel, by decide +kernel⟩
theorem sc_Function___eq__ : FnScope N_Function___eq__ P_Function___eq__ S_Function___eq__ := ⟨rfl, rfl, rfl, by decide +kernel, rfl, by decide +kernel, by decide +kernel⟩
theorem sc_require_function : FnScope N_require_function P_require_function S_require_function := ⟨rfl, rfl, rfl, by decide +kernel, rfl, by decide +kernel, by decide +kernel⟩
theorem sc_require_same_prime : FnScope N_require_same_prime P_require_same_prime S_require_same_prime := ⟨rfl, rfl, rfl, by decide +kernel, rfl, by decide +kernel, by decide +kernel⟩
theorem sc_trimmed_entries : FnScope N_trimmed_entries P_trimmed_entries S_trimmed_entries := ⟨rfl, rfl, rfl, by decide +kernel, rfl, by decide +kernel, by decide +kernel⟩
theorem sc_KeptEntries___init__ : FnScope N_KeptEntries___init__ P_KeptEntries___init__ S_KeptEntries___init__ := ⟨rfl, rfl, rfl, by decide +kernel, rfl, by decide +kernel, by decide +kernel⟩
theorem sc_entries_told : FnScope N_entries_told P_entries_told S_entries_told := ⟨rfl, rfl, rfl, by decide +kernel, rfl, by decide +kernel, by decide +kernel⟩
theorem sc_Operator_degree : FnScope N_Operator_degree P_Operator_degree S_Operator_degree := ⟨rfl, rfl, rfl, by decide +kernel, rfl, by decide +kernel, by decide +kernel⟩
theorem sc_Operator___len__ : FnScope N_Operator___len__ P_Operator___len__ S_Operator___len__ := ⟨rfl, rfl, rfl, by decide +kernel, rfl, by decide +kernel, by decide +kernel⟩
theorem sc_require_operator : FnScope N_require_operator P_require_operator S_require_operator := ⟨rfl, rfl, rfl, by decide +kernel, rfl, by decide +kernel, by decide +kernel⟩
theorem sc__law_bag : FnScope N__law_bag P__law_bag S__law_bag := ⟨rfl, rfl, rfl, by decide +kernel, rfl, by decide +kernel, by decide +kernel⟩
theorem sc__law_grab : FnScope N__law_grab P__law_grab S__law_grab := ⟨rfl, rfl, rfl, by decide +kernel, rfl, by decide +kernel, by decide +kernel⟩
theorem sc_is_integer : FnScope N_is_integer P_is_integer S_is_integer := ⟨rfl, rfl, rfl, by decide +kernel, rfl, by decide +kernel, by decide +kernel⟩
theorem sc_is_within : FnScope N_is_within P_is_within S_is_within := ⟨rfl, rfl, rfl, by decide +kernel, rfl, by decide +kernel, by decide +kernel⟩
theorem sc_require_prime : FnScope N_require_prime P_require_prime S_require_prime := ⟨rfl, rfl, rfl, by decide +kernel, rfl, by decide +kernel, by decide +kernel⟩
theorem sc_plus_in : FnScope N_plus_in P_plus_in S_plus_in := ⟨rfl, rfl, rfl, by decide +kernel, rfl, by decide +kernel, by decide +kernel⟩
theorem sc_times_in : FnScope N_times_in P_times_in S_times_in := ⟨rfl, rfl, rfl, by decide +kernel, rfl, by decide +kernel, by decide +kernel⟩
theorem sc_scaled_poly : FnScope N_scaled_poly P_scaled_poly S_scaled_poly := ⟨rfl, rfl, rfl, by decide +kernel, rfl, by decide +kernel, by decide +kernel⟩
theorem sc_divided_in : FnScope N_divided_in P_divided_in S_divided_in := ⟨rfl, rfl, rfl, by decide +kernel, rfl, by decide +kernel, by decide +kernel⟩
theorem sc_slope_of_poly : FnScope N_slope_of_poly P_slope_of_poly S_slope_of_poly := ⟨rfl, rfl, rfl, by decide +kernel, rfl, by decide +kernel, by decide +kernel⟩
theorem sc_require_operand : FnScope N_require_operand P_require_operand S_require_operand := ⟨rfl, rfl, rfl, by decide +kernel, rfl, by decide +kernel, by decide +kernel⟩
theorem sc_each_made : GScope N_each_made P_each_made S_each_made := ⟨rfl, rfl, rfl, by decide +kernel, rfl, by decide +kernel, by decide +kernel⟩
theorem sc__law_one_of : FnScope N__law_one_of P__law_one_of S__law_one_of := ⟨rfl, rfl, rfl, by decide +kernel, rfl, by decide +kernel, by decide +kernel⟩
theorem sc_require_within : FnScope N_require_within P_require_within S_require_within := ⟨rfl, rfl, rfl, by decide +kernel, rfl, by decide +kernel, by decide +kernel⟩
theorem sc_is_poly_any : FnScope N_is_poly_any P_is_poly_any S_is_poly_any := ⟨rfl, rfl, rfl, by decide +kernel, rfl, by decide +kernel, by decide +kernel⟩
theorem sc_monic_in : FnScope N_monic_in P_monic_in S_monic_in := ⟨rfl, rfl, rfl, by decide +kernel, rfl, by decide +kernel, by decide +kernel⟩
theorem sc_Operator___init__ : FnScope N_Operator___init__ P_Operator___init__ S_Operator___init__ := ⟨rfl, rfl, rfl, by decide +kernel, rfl, by decide +kernel, by decide +kernel⟩
theorem sc_Operator___eq__ : FnScope N_Operator___eq__ P_Operator___eq__ S_Operator___eq__ := ⟨rfl, rfl, rfl, by decide +kernel, rfl, by decide +kernel, by decide +kernel⟩
theorem sc_require_poly : FnScope N_require_poly P_require_poly S_require_poly := ⟨rfl, rfl, rfl, by decide +kernel, rfl, by decide +kernel, by decide +kernel⟩
theorem sc_common_in : FnScope N_common_in P_common_in S_common_in := ⟨rfl, rfl, rfl, by decide +kernel, rfl, by decide +kernel, by decide +kernel⟩
theorem sc_lowest_pair : FnScope N_lowest_pair P_lowest_pair S_lowest_pair := ⟨rfl, rfl, rfl, by decide +kernel, rfl, by decide +kernel, by decide +kernel⟩
theorem sc_made_operator : FnScope N_made_operator P_made_operator S_made_operator := ⟨rfl, rfl, rfl, by decide +kernel, rfl, by decide +kernel, by decide +kernel⟩
theorem sc_Function___init__ : FnScope N_Function___init__ P_Function___init__ S_Function___init__ := ⟨rfl, rfl, rfl, by decide +kernel, rfl, by decide +kernel, by decide +kernel⟩
theorem sc_Operator_times : FnScope N_Operator_times P_Operator_times S_Operator_times := ⟨rfl, rfl, rfl, by decide +kernel, rfl, by decide +kernel, by decide +kernel⟩
theorem sc_Function_number : FnScope N_Function_number P_Function_number S_Function_number := ⟨rfl, rfl, rfl, by decide +kernel, rfl, by decide +kernel, by decide +kernel⟩
theorem sc_Function___neg__ : FnScope N_Function___neg__ P_Function___neg__ S_Function___neg__ := ⟨rfl, rfl, rfl, by decide +kernel, rfl, by decide +kernel, by decide +kernel⟩
theorem sc_made_function : FnScope N_made_function P_made_function S_made_function := ⟨rfl, rfl, rfl, by decide +kernel, rfl, by decide +kernel, by decide +kernel⟩
theorem sc_zero_of : FnScope N_zero_of P_zero_of S_zero_of := ⟨rfl, rfl, rfl, by decide +kernel, rfl, by decide +kernel, by decide +kernel⟩
theorem sc_unit_of : FnScope N_unit_of P_unit_of S_unit_of := ⟨rfl, rfl, rfl, by decide +kernel, rfl, by decide +kernel, by decide +kernel⟩
theorem sc_sum_of : FnScope N_sum_of P_sum_of S_sum_of := ⟨rfl, rfl, rfl, by decide +kernel, rfl, by decide +kernel, by decide +kernel⟩
theorem sc_product_of : FnScope N_product_of P_product_of S_product_of := ⟨rfl, rfl, rfl, by decide +kernel, rfl, by decide +kernel, by decide +kernel⟩
theorem sc_undone_of : FnScope N_undone_of P_undone_of S_undone_of := ⟨rfl, rfl, rfl, by decide +kernel, rfl, by decide +kernel, by decide +kernel⟩
theorem sc_slope_of : FnScope N_slope_of P_slope_of S_slope_of := ⟨rfl, rfl, rfl, by decide +kernel, rfl, by decide +kernel, by decide +kernel⟩
theorem sc_Operator_slopes : FnScope N_Operator_slopes P_Operator_slopes S_Operator_slopes := ⟨rfl, rfl, rfl, by decide +kernel, rfl, by decide +kernel, by decide +kernel⟩
theorem sc_Operator_factor : FnScope N_Operator_factor P_Operator_factor S_Operator_factor := ⟨rfl, rfl, rfl, by decide +kernel, rfl, by decide +kernel, by decide +kernel⟩
theorem sc_Operator_entry : FnScope N_Operator_entry P_Operator_entry S_Operator_entry := ⟨rfl, rfl, rfl, by decide +kernel, rfl, by decide +kernel, by decide +kernel⟩
theorem sc_Function___add__ : FnScope N_Function___add__ P_Function___add__ S_Function___add__ := ⟨rfl, rfl, rfl, by decide +kernel, rfl, by decide +kernel, by decide +kernel⟩
theorem sc_Function___sub__ : FnScope N_Function___sub__ P_Function___sub__ S_Function___sub__ := ⟨rfl, rfl, rfl, by decide +kernel, rfl, by decide +kernel, by decide +kernel⟩
theorem sc_Function___mul__ : FnScope N_Function___mul__ P_Function___mul__ S_Function___mul__ := ⟨rfl, rfl, rfl, by decide +kernel, rfl, by decide +kernel, by decide +kernel⟩
theorem sc_Function___floordiv__ : FnScope N_Function___floordiv__ P_Function___floordiv__ S_Function___floordiv__ := ⟨rfl, rfl, rfl, by decide +kernel, rfl, by decide +kernel, by decide +kernel⟩
theorem sc_is_of_t : FnScope N_is_of_t P_is_of_t S_is_of_t := ⟨rfl, rfl, rfl, by decide +kernel, rfl, by decide +kernel, by decide +kernel⟩
theorem sc_sum_in : FnScope N_sum_in P_sum_in S_sum_in := ⟨rfl, rfl, rfl, by decide +kernel, rfl, by decide +kernel, by decide +kernel⟩
theorem sc_scaled_in : FnScope N_scaled_in P_scaled_in S_scaled_in := ⟨rfl, rfl, rfl, by decide +kernel, rfl, by decide +kernel, by decide +kernel⟩
theorem sc_slope_ahead : FnScope N_slope_ahead P_slope_ahead S_slope_ahead := ⟨rfl, rfl, rfl, by decide +kernel, rfl, by decide +kernel, by decide +kernel⟩
theorem sc_applied_to : FnScope N_applied_to P_applied_to S_applied_to := ⟨rfl, rfl, rfl, by decide +kernel, rfl, by decide +kernel, by decide +kernel⟩
theorem sc_is_central : FnScope N_is_central P_is_central S_is_central := ⟨rfl, rfl, rfl, by decide +kernel, rfl, by decide +kernel, by decide +kernel⟩
theorem sc_product_in : FnScope N_product_in P_product_in S_product_in := ⟨rfl, rfl, rfl, by decide +kernel, rfl, by decide +kernel, by decide +kernel⟩
theorem sc_Operator_led : FnScope N_Operator_led P_Operator_led S_Operator_led := ⟨rfl, rfl, rfl, by decide +kernel, rfl, by decide +kernel, by decide +kernel⟩
theorem sc_Operator_monic : FnScope N_Operator_monic P_Operator_monic S_Operator_monic := ⟨rfl, rfl, rfl, by decide +kernel, rfl, by decide +kernel, by decide +kernel⟩
theorem sc_Operator___call__ : FnScope N_Operator___call__ P_Operator___call__ S_Operator___call__ := ⟨rfl, rfl, rfl, by decide +kernel, rfl, by decide +kernel, by decide +kernel⟩
theorem sc_Operator___add__ : FnScope N_Operator___add__ P_Operator___add__ S_Operator___add__ := ⟨rfl, rfl, rfl, by decide +kernel, rfl, by decide +kernel, by decide +kernel⟩
theorem sc_Operator___sub__ : FnScope N_Operator___sub__ P_Operator___sub__ S_Operator___sub__ := ⟨rfl, rfl, rfl, by decide +kernel, rfl, by decide +kernel, by decide +kernel⟩
theorem sc_raised_operator : FnScope N_raised_operator P_raised_operator S_raised_operator := ⟨rfl, rfl, rfl, by decide +kernel, rfl, by decide +kernel, by decide +kernel⟩
theorem sc_Operator___mul__ : FnScope N_Operator___mul__ P_Operator___mul__ S_Operator___mul__ := ⟨rfl, rfl, rfl, by decide +kernel, rfl, by decide +kernel, by decide +kernel⟩
theorem sc_commutator : FnScope N_commutator P_commutator S_commutator := ⟨rfl, rfl, rfl, by decide +kernel, rfl, by decide +kernel, by decide +kernel⟩
theorem sc_Operator___pow__ : FnScope N_Operator___pow__ P_Operator___pow__ S_Operator___pow__ := ⟨rfl, rfl, rfl, by decide +kernel, rfl, by decide +kernel, by decide +kernel⟩
theorem sc__law_made_right : FnScope N__law_made_right P__law_made_right S__law_made_right := ⟨rfl, rfl, rfl, by decide +kernel, rfl, by decide +kernel, by decide +kernel⟩
theorem sc__law_used_right : FnScope N__law_used_right P__law_used_right S__law_used_right := ⟨rfl, rfl, rfl, by decide +kernel, rfl, by decide +kernel, by decide +kernel⟩
theorem sc_law : FnScope N_law P_law S_law := ⟨rfl, rfl, rfl, by decide +kernel, rfl, by decide +kernel, by decide +kernel⟩
theorem it_InvalidNumber : InitTx (defArgs (mem 7 0)) (defBody (mem 7 0)) (defScope (mem 7 0)) "given" "given" "an integer within its bounds is expected" := ⟨⟨_, _, rfl⟩, ⟨_, _, _, _, _, _, _, _, _, _, _, rfl, fun env => ⟨_, rfl⟩⟩, fun _ _ _ _ _ _ _ _ _ => rfl, rfl, rfl, rfl, rfl, rfl, rfl, rfl, by decide +kernel, by decide, rfl⟩
theorem facts {P : Program} {w : World} {K : PySem.W.Frag} {h : Heap} {mg : Str → Option Value} {f : Addr} (X : K.In h) (G : h.Ns mainGlobals mg) (hfa : mg ("law" : Str) = some (.ref f)) (c0 : SaysI fal exl fnl inl tfl h K) (hfile : ((P.main.file : Str) == fileP) = true) (htop : (P.main.scope.names.lookup ("super" : Str)).isSome = false) :
    ∃ fd : FuncData, (∀ (s : Shared) (v : Value), BindsTo s fd ⟨[v], []⟩ [("script", v)]) ∧ ∀ base : Heap, K.In base → base.Ns mainGlobals mg → (∀ p ∈ csL tfl K, LamX.TabB base mg p.1 p.2) → FnG P w K mg base (L2.CX P w) 18 f fd ["script"] (spD ⟨K, mg, tabL tfl K, fun _ => none⟩ 1 f_law) := by
  have c := c0.a
  obtain ⟨d_is_whole, D_is_whole⟩ := c.def_ 0 (d := mkD "is_whole" 12 []) rfl
  obtain ⟨d_undone_number, D_undone_number⟩ := c.def_ 1 (d := mkD "undone_number" 17 []) rfl
  obtain ⟨d_trimmed, D_trimmed⟩ := c.def_ 2 (d := mkD "trimmed" 20 []) rfl
  obtain ⟨d_number_at, D_number_at⟩ := c.def_ 3 (d := mkD "number_at" 22 []) rfl
  obtain ⟨d_Lowest___init__, D_Lowest___init__⟩ := c.def_ 4 (d := mkM "Lowest" "__init__" "Lowest.__init__" (mem 33 1) []) rfl
  obtain ⟨d_Function_degree, D_Function_degree⟩ := c.def_ 5 (d := mkP "Function" "degree" "Function.degree" (mem 34 8) []) rfl
  obtain ⟨d_Function___eq__, D_Function___eq__⟩ := c.def_ 6 (d := mkM "Function" "__eq__" "Function.__eq__" (mem 34 20) []) rfl
  obtain ⟨d_require_function, D_require_function⟩ := c.def_ 7 (d := mkD "require_function" 46 []) rfl
  obtain ⟨d_require_same_prime, D_require_same_prime⟩ := c.def_ 8 (d := mkD "require_same_prime" 47 []) rfl
  obtain ⟨d_trimmed_entries, D_trimmed_entries⟩ := c.def_ 9 (d := mkD "trimmed_entries" 53 []) rfl
  obtain ⟨d_KeptEntries___init__, D_KeptEntries___init__⟩ := c.def_ 10 (d := mkM "KeptEntries" "__init__" "KeptEntries.__init__" (mem 61 1) []) rfl
  obtain ⟨d_entries_told, D_entries_told⟩ := c.def_ 11 (d := mkD "entries_told" 62 []) rfl
  obtain ⟨d_Operator_degree, D_Operator_degree⟩ := c.def_ 12 (d := mkP "Operator" "degree" "Operator.degree" (mem 66 7) []) rfl
  obtain ⟨d_Operator___len__, D_Operator___len__⟩ := c.def_ 13 (d := mkM "Operator" "__len__" "Operator.__len__" (mem 66 20) []) rfl
  obtain ⟨d_require_operator, D_require_operator⟩ := c.def_ 14 (d := mkD "require_operator" 67 []) rfl
  obtain ⟨d__law_bag, D__law_bag⟩ := c.def_ 15 (d := mkD "_law_bag" 72 []) rfl
  obtain ⟨d__law_grab, D__law_grab⟩ := c.def_ 16 (d := mkD "_law_grab" 73 []) rfl
  obtain ⟨d_is_integer, D_is_integer⟩ := c.def_ 17 (d := mkD "is_integer" 13 []) rfl
  obtain ⟨d_is_within, D_is_within⟩ := c.def_ 18 (d := mkD "is_within" 14 []) rfl
  obtain ⟨d_require_prime, D_require_prime⟩ := c.def_ 19 (d := mkD "require_prime" 16 []) rfl
  obtain ⟨d_plus_in, D_plus_in⟩ := c.def_ 20 (d := mkD "plus_in" 21 []) rfl
  obtain ⟨d_times_in, D_times_in⟩ := c.def_ 21 (d := mkD "times_in" 23 []) rfl
  obtain ⟨d_scaled_poly, D_scaled_poly⟩ := c.def_ 22 (d := mkD "scaled_poly" 24 []) rfl
  obtain ⟨d_divided_in, D_divided_in⟩ := c.def_ 23 (d := mkD "divided_in" 25 []) rfl
  obtain ⟨d_slope_of_poly, D_slope_of_poly⟩ := c.def_ 24 (d := mkD "slope_of_poly" 29 []) rfl
  obtain ⟨d_require_operand, D_require_operand⟩ := c.def_ 25 (d := mkD "require_operand" 48 []) rfl
  obtain ⟨d_each_made, D_each_made⟩ := c.def_ 26 (d := mkD "each_made" 70 []) rfl
  obtain ⟨d__law_one_of, D__law_one_of⟩ := c.def_ 27 (d := mkD "_law_one_of" 74 []) rfl
  obtain ⟨d_require_within, D_require_within⟩ := c.def_ 28 (d := mkD "require_within" 15 []) rfl
  obtain ⟨d_is_poly_any, D_is_poly_any⟩ := c.def_ 29 (d := mkD "is_poly_any" 18 []) rfl
  obtain ⟨d_monic_in, D_monic_in⟩ := c.def_ 30 (d := mkD "monic_in" 26 []) rfl
  obtain ⟨d_Operator___init__, D_Operator___init__⟩ := c.def_ 31 (d := mkM "Operator" "__init__" "Operator.__init__" (mem 66 1) []) rfl
  obtain ⟨d_Operator___eq__, D_Operator___eq__⟩ := c.def_ 32 (d := mkM "Operator" "__eq__" "Operator.__eq__" (mem 66 18) []) rfl
  obtain ⟨d_require_poly, D_require_poly⟩ := c.def_ 33 (d := mkD "require_poly" 19 []) rfl
  obtain ⟨d_common_in, D_common_in⟩ := c.def_ 34 (d := mkD "common_in" 27 []) rfl
  obtain ⟨d_lowest_pair, D_lowest_pair⟩ := c.def_ 35 (d := mkD "lowest_pair" 37 []) rfl
  obtain ⟨d_made_operator, D_made_operator⟩ := c.def_ 36 (d := mkD "made_operator" 54 []) rfl
  obtain ⟨d_Function___init__, D_Function___init__⟩ := c.def_ 37 (d := mkM "Function" "__init__" "Function.__init__" (mem 34 1) []) rfl
  obtain ⟨d_Operator_times, D_Operator_times⟩ := c.def_ 38 (d := mkC "Operator" "times" "Operator.times" (mem 66 4) []) rfl
  obtain ⟨d_Function_number, D_Function_number⟩ := c.def_ 39 (d := mkC "Function" "number" "Function.number" (mem 34 2) []) rfl
  obtain ⟨d_Function___neg__, D_Function___neg__⟩ := c.def_ 40 (d := mkM "Function" "__neg__" "Function.__neg__" (mem 34 18) []) rfl
  obtain ⟨d_made_function, D_made_function⟩ := c.def_ 41 (d := mkD "made_function" 38 []) rfl
  obtain ⟨d_zero_of, D_zero_of⟩ := c.def_ 42 (d := mkD "zero_of" 39 []) rfl
  obtain ⟨d_unit_of, D_unit_of⟩ := c.def_ 43 (d := mkD "unit_of" 40 []) rfl
  obtain ⟨d_sum_of, D_sum_of⟩ := c.def_ 44 (d := mkD "sum_of" 41 []) rfl
  obtain ⟨d_product_of, D_product_of⟩ := c.def_ 45 (d := mkD "product_of" 42 []) rfl
  obtain ⟨d_undone_of, D_undone_of⟩ := c.def_ 46 (d := mkD "undone_of" 43 []) rfl
  obtain ⟨d_slope_of, D_slope_of⟩ := c.def_ 47 (d := mkD "slope_of" 45 []) rfl
  obtain ⟨d_Operator_slopes, D_Operator_slopes⟩ := c.def_ 48 (d := mkC "Operator" "slopes" "Operator.slopes" (mem 66 2) []) rfl
  obtain ⟨d_Operator_factor, D_Operator_factor⟩ := c.def_ 49 (d := mkC "Operator" "factor" "Operator.factor" (mem 66 3) []) rfl
  obtain ⟨d_Operator_entry, D_Operator_entry⟩ := c.def_ 50 (d := mkM "Operator" "entry" "Operator.entry" (mem 66 9) []) rfl
  obtain ⟨d_Function___add__, D_Function___add__⟩ := c.def_ 51 (d := mkM "Function" "__add__" "Function.__add__" (mem 34 14) []) rfl
  obtain ⟨d_Function___sub__, D_Function___sub__⟩ := c.def_ 52 (d := mkM "Function" "__sub__" "Function.__sub__" (mem 34 15) []) rfl
  obtain ⟨d_Function___mul__, D_Function___mul__⟩ := c.def_ 53 (d := mkM "Function" "__mul__" "Function.__mul__" (mem 34 16) []) rfl
  obtain ⟨d_Function___floordiv__, D_Function___floordiv__⟩ := c.def_ 54 (d := mkM "Function" "__floordiv__" "Function.__floordiv__" (mem 34 17) []) rfl
  obtain ⟨d_is_of_t, D_is_of_t⟩ := c.def_ 55 (d := mkD "is_of_t" 60 []) rfl
  obtain ⟨d_sum_in, D_sum_in⟩ := c.def_ 56 (d := mkD "sum_in" 55 []) rfl
  obtain ⟨d_scaled_in, D_scaled_in⟩ := c.def_ 57 (d := mkD "scaled_in" 56 []) rfl
  obtain ⟨d_slope_ahead, D_slope_ahead⟩ := c.def_ 58 (d := mkD "slope_ahead" 57 []) rfl
  obtain ⟨d_applied_to, D_applied_to⟩ := c.def_ 59 (d := mkD "applied_to" 59 []) rfl
  obtain ⟨d_is_central, D_is_central⟩ := c.def_ 60 (d := mkD "is_central" 69 []) rfl
  obtain ⟨d_product_in, D_product_in⟩ := c.def_ 61 (d := mkD "product_in" 58 []) rfl
  obtain ⟨d_Operator_led, D_Operator_led⟩ := c.def_ 62 (d := mkM "Operator" "led" "Operator.led" (mem 66 10) []) rfl
  obtain ⟨d_Operator_monic, D_Operator_monic⟩ := c.def_ 63 (d := mkM "Operator" "monic" "Operator.monic" (mem 66 11) []) rfl
  obtain ⟨d_Operator___call__, D_Operator___call__⟩ := c.def_ 64 (d := mkM "Operator" "__call__" "Operator.__call__" (mem 66 12) []) rfl
  obtain ⟨d_Operator___add__, D_Operator___add__⟩ := c.def_ 65 (d := mkM "Operator" "__add__" "Operator.__add__" (mem 66 13) []) rfl
  obtain ⟨d_Operator___sub__, D_Operator___sub__⟩ := c.def_ 66 (d := mkM "Operator" "__sub__" "Operator.__sub__" (mem 66 14) []) rfl
  obtain ⟨d_raised_operator, D_raised_operator⟩ := c.def_ 67 (d := mkD "raised_operator" 65 []) rfl
  obtain ⟨d_Operator___mul__, D_Operator___mul__⟩ := c.def_ 68 (d := mkM "Operator" "__mul__" "Operator.__mul__" (mem 66 15) []) rfl
  obtain ⟨d_commutator, D_commutator⟩ := c.def_ 69 (d := mkD "commutator" 68 []) rfl
  obtain ⟨d_Operator___pow__, D_Operator___pow__⟩ := c.def_ 70 (d := mkM "Operator" "__pow__" "Operator.__pow__" (mem 66 17) []) rfl
  obtain ⟨d__law_made_right, D__law_made_right⟩ := c.def_ 71 (d := mkD "_law_made_right" 76 []) rfl
  obtain ⟨d__law_used_right, D__law_used_right⟩ := c.def_ 72 (d := mkD "_law_used_right" 77 []) rfl
  obtain ⟨d_law, D_law⟩ := c.def_ 73 (d := mkD "law" 78 []) rfl
  obtain ⟨d__law_fault, D__law_fault⟩ := c.def_ 74 (d := mkD "_law_fault" 75 []) rfl
  have e := hfa.symm.trans (He.glo_ok X G (c.fact 47 (f := .glo "law") rfl))
  cases e
  have bL := FunD.bindsA (ps := ["script"]) D_law fun _ _ _ _ _ _ us hl => match us, hl with | [_], _ => rfl
  refine ⟨d_law, fun s v => bL s [v] rfl, fun base _ _ TB => ?_⟩
  let M : Mo := ⟨P, w, K, mg, base, tabL tfl K⟩
  have m_int : M.mg "int" = none := He.free_ok X G (c.fact 58 (f := .free "int") rfl)
  have m_isinstance : M.mg "isinstance" = none := He.free_ok X G (c.fact 59 (f := .free "isinstance") rfl)
  have m_bool : M.mg "bool" = none := He.free_ok X G (c.fact 60 (f := .free "bool") rfl)
  have m_tuple : M.mg "tuple" = none := He.free_ok X G (c.fact 61 (f := .free "tuple") rfl)
  have m_len : M.mg "len" = none := He.free_ok X G (c.fact 62 (f := .free "len") rfl)
  have m_list : M.mg "list" = none := He.free_ok X G (c.fact 63 (f := .free "list") rfl)
  have m_all : M.mg "all" = none := He.free_ok X G (c.fact 64 (f := .free "all") rfl)
  have m_any : M.mg "any" = none := He.free_ok X G (c.fact 65 (f := .free "any") rfl)
  have m_abs : M.mg "abs" = none := He.free_ok X G (c.fact 66 (f := .free "abs") rfl)
  have m_max : M.mg "max" = none := He.free_ok X G (c.fact 67 (f := .free "max") rfl)
  have m_range : M.mg "range" = none := He.free_ok X G (c.fact 68 (f := .free "range") rfl)
  have m_enumerate : M.mg "enumerate" = none := He.free_ok X G (c.fact 69 (f := .free "enumerate") rfl)
  have m_TypeError : M.mg "TypeError" = none := He.free_ok X G (c.fact 70 (f := .free "TypeError") rfl)
  have m_zip : M.mg "zip" = none := He.free_ok X G (c.fact 71 (f := .free "zip") rfl)
  have m_repr : M.mg "repr" = none := He.free_ok X G (c.fact 72 (f := .free "repr") rfl)
  have m_min : M.mg "min" = none := He.free_ok X G (c.fact 73 (f := .free "min") rfl)
  have m_super : M.mg "super" = none := He.free_ok X G (c.fact 74 (f := .free "super") rfl)
  have g_MAX_ENTRIES : Glb M "MAX_ENTRIES" c_MAX_ENTRIES := glb_int (He.int_ok X G (c.fact 75 (f := .int "MAX_ENTRIES" 9) rfl))
  have g_MOST_FIGURES : Glb M "MOST_FIGURES" c_MOST_FIGURES := glb_int (He.int_ok X G (c.fact 76 (f := .int "MOST_FIGURES" 1000000000000000000000000000000000000000000000000000000000000) rfl))
  have g_PRIMES : Glb M "PRIMES" c_PRIMES := glb_tup [2, 3, 5, 7] (He.glo_ok X G (c.fact 77 (f := .glo "PRIMES") rfl)) (c.bk 0 (b := (fun K => He.tupB K "PRIMES" ([2, 3, 5, 7].map He.Dv.int))) rfl)
  have g_MAX_POWER : Glb M "MAX_POWER" c_MAX_POWER := glb_int (He.int_ok X G (c.fact 78 (f := .int "MAX_POWER" 60) rfl))
  have g_MAX_RAISED_operators : Glb M "MAX_RAISED_operators" c_MAX_RAISED_operators := glb_int (He.int_ok X G (c.fact 79 (f := .int "MAX_RAISED_operators" 8) rfl))
  have g_MOST_INDEX : Glb M "MOST_INDEX" c_MOST_INDEX := glb_int (He.int_ok X G (c.fact 80 (f := .int "MOST_INDEX" 1000) rfl))
  have G_Lowest : M.mg "Lowest" = some (.ref (He.ga M.K "Lowest")) := (He.glo_ok X G (c.fact 49 (f := .glo "Lowest") rfl))
  have G_Function : M.mg "Function" = some (.ref (He.ga M.K "Function")) := (He.glo_ok X G (c.fact 50 (f := .glo "Function") rfl))
  have G_KeptEntries : M.mg "KeptEntries" = some (.ref (He.ga M.K "KeptEntries")) := (He.glo_ok X G (c.fact 51 (f := .glo "KeptEntries") rfl))
  have G_Operator : M.mg "Operator" = some (.ref (He.ga M.K "Operator")) := (He.glo_ok X G (c.fact 52 (f := .glo "Operator") rfl))
  have G_InvalidFunction : M.mg "InvalidFunction" = some (.ref (He.ga M.K "InvalidFunction")) := (He.glo_ok X G (c.fact 53 (f := .glo "InvalidFunction") rfl))
  have G_InvalidOperation : M.mg "InvalidOperation" = some (.ref (He.ga M.K "InvalidOperation")) := (He.glo_ok X G (c.fact 54 (f := .glo "InvalidOperation") rfl))
  have G_InvalidOperator : M.mg "InvalidOperator" = some (.ref (He.ga M.K "InvalidOperator")) := (He.glo_ok X G (c.fact 55 (f := .glo "InvalidOperator") rfl))
  have G_InvalidPoly : M.mg "InvalidPoly" = some (.ref (He.ga M.K "InvalidPoly")) := (He.glo_ok X G (c.fact 56 (f := .glo "InvalidPoly") rfl))
  have G_InvalidNumber : M.mg "InvalidNumber" = some (.ref (He.ga M.K "InvalidNumber")) := (He.glo_ok X G (c.fact 57 (f := .glo "InvalidNumber") rfl))
  have c_Lowest : ∃ C, M.mg "Lowest" = some (.ref C) := ⟨_, G_Lowest⟩
  have c_Function : ∃ C, M.mg "Function" = some (.ref C) := ⟨_, G_Function⟩
  have c_KeptEntries : ∃ C, M.mg "KeptEntries" = some (.ref C) := ⟨_, G_KeptEntries⟩
  have c_Operator : ∃ C, M.mg "Operator" = some (.ref C) := ⟨_, G_Operator⟩
  have c_InvalidFunction : ∃ C, M.mg "InvalidFunction" = some (.ref C) := ⟨_, G_InvalidFunction⟩
  have c_InvalidOperation : ∃ C, M.mg "InvalidOperation" = some (.ref C) := ⟨_, G_InvalidOperation⟩
  have c_InvalidOperator : ∃ C, M.mg "InvalidOperator" = some (.ref C) := ⟨_, G_InvalidOperator⟩
  have c_InvalidNumber : ∃ C, M.mg "InvalidNumber" = some (.ref C) := ⟨_, G_InvalidNumber⟩
  have hi_ : HasI M clsL := hasI_of (by intro c hc; simp only [clsL, List.mem_cons, List.not_mem_nil, or_false] at hc; rcases hc with rfl | rfl | rfl | rfl <;> assumption) (c.bk 1 (b := (isiK clsL)) rfl)
  have et_InvalidNumber := errTxt_of (x := "InvalidNumber") rfl (c0.ini 0 (d := ⟨"InvalidNumber", "InvalidNumber.__init__", defArgs (mem 7 0), defBody (mem 7 0), defScope (mem 7 0)⟩) rfl) (c.bk 2 (b := (errB "InvalidNumber" "given" "InvalidNumber.__init__" fileP "IndexError" "IndexError.__new__" "IndexError.__init__" [.type "IndexError", .type "LookupError", .type "Exception", .type "BaseException", .type "object"])) rfl)
  have xk_InvalidNumber : XKeep M "InvalidNumber" "given" := ⟨_, _, _, _, _, _, _, _, _, _, _, _, _, G_InvalidNumber, exk_IndexError, it_InvalidNumber, et_InvalidNumber.1, hfile, htop, m_super, et_InvalidNumber.2.1, et_InvalidNumber.2.2⟩
  have xf_InvalidNumber : XfF M "InvalidNumber" "given" := ⟨_, G_InvalidNumber, et_InvalidNumber.2.1, et_InvalidNumber.2.2⟩
  have mt__law_fault : MetF M "_law_fault" "call" (defScope (top 75)) (defBody (top 75)) := metF_of (He.glo_ok X G (c.fact 48 (f := .glo "_law_fault") rfl)) D__law_fault (D__law_fault.bindsN (ps := ["call"]) fun _ _ _ _ _ _ us hl => match us, hl with | [_], _ => rfl)
  have ns_InvalidOperation : NSt M "InvalidOperation" := nst_of G_InvalidOperation (c.bk 3 (b := (nstB "InvalidOperation")) rfl)
  have ns_InvalidFunction : NSt M "InvalidFunction" := nst_of G_InvalidFunction (c.bk 4 (b := (nstB "InvalidFunction")) rfl)
  have ns_InvalidOperator : NSt M "InvalidOperator" := nst_of G_InvalidOperator (c.bk 5 (b := (nstB "InvalidOperator")) rfl)
  have xr_InvalidFunction : XOwn M "InvalidFunction" := XOwn.of G_InvalidFunction (c.bk 6 (b := (xownK "InvalidFunction")) rfl)
  have xr_InvalidOperation : XOwn M "InvalidOperation" := XOwn.of G_InvalidOperation (c.bk 7 (b := (xownK "InvalidOperation")) rfl)
  have xr_InvalidOperator : XOwn M "InvalidOperator" := XOwn.of G_InvalidOperator (c.bk 8 (b := (xownK "InvalidOperator")) rfl)
  have xr_InvalidPoly : XOwn M "InvalidPoly" := XOwn.of G_InvalidPoly (c.bk 9 (b := (xownK "InvalidPoly")) rfl)
  have st__law_fault : SubOk M tab__law_fault := subOk_of (fun p hp => by simp only [tab__law_fault, List.cons_append, List.nil_append, List.mem_cons, List.not_mem_nil, or_false] at hp; first | (rcases hp with rfl | rfl | rfl | rfl | rfl | rfl | rfl | rfl | rfl | rfl | rfl | rfl | rfl | rfl | rfl | rfl | rfl | rfl | rfl | rfl | rfl | rfl | rfl | rfl <;> exact ⟨by assumption, by first | assumption | trivial⟩)) (c.bk 10 (b := (tabB tab__law_fault)) rfl)
  have o_is_whole : FnOk M.P M.w M.K M.mg M.base (L2.CX M.P M.w) 1 (He.ga M.K "is_whole") d_is_whole P_is_whole (spD M.G 1 f_is_whole) := fn_ok (M := M) D_is_whole sc_is_whole rfl fun W => b_is_whole M m_int hi_ m_isinstance m_bool W
  have h_is_whole : Has M "is_whole" 1 P_is_whole [] (spD M.G 1 f_is_whole) := ⟨_, _, [], o_is_whole, (He.glo_ok X G (c.fact 0 (f := .glo "is_whole") rfl)), D_is_whole.kp, D_is_whole.bindsN fun _ _ _ _ _ _ us hl => match us, hl with | [_], _ => rfl, .nil⟩
  have o_undone_number : FnOk M.P M.w M.K M.mg M.base (L2.CX M.P M.w) 1 (He.ga M.K "undone_number") d_undone_number P_undone_number (spD M.G 2 f_undone_number) := fn_ok (M := M) D_undone_number sc_undone_number rfl fun W => b_undone_number M  W
  have h_undone_number : Has M "undone_number" 1 P_undone_number [] (spD M.G 2 f_undone_number) := ⟨_, _, [], o_undone_number, (He.glo_ok X G (c.fact 1 (f := .glo "undone_number") rfl)), D_undone_number.kp, D_undone_number.bindsN fun _ _ _ _ _ _ us hl => match us, hl with | [_, _], _ => rfl, .nil⟩
  have o_trimmed : FnOk M.P M.w M.K M.mg M.base (L2.CX M.P M.w) 1 (He.ga M.K "trimmed") d_trimmed P_trimmed (spD M.G 2 f_trimmed) := fn_ok (M := M) D_trimmed sc_trimmed rfl fun W => b_trimmed M m_tuple W
  have h_trimmed : Has M "trimmed" 1 P_trimmed [] (spD M.G 2 f_trimmed) := ⟨_, _, [], o_trimmed, (He.glo_ok X G (c.fact 2 (f := .glo "trimmed") rfl)), D_trimmed.kp, D_trimmed.bindsN fun _ _ _ _ _ _ us hl => match us, hl with | [_, _], _ => rfl, .nil⟩
  have o_number_at : FnOk M.P M.w M.K M.mg M.base (L2.CX M.P M.w) 1 (He.ga M.K "number_at") d_number_at P_number_at (spD M.G 2 f_number_at) := fn_ok (M := M) D_number_at sc_number_at rfl fun W => b_number_at M m_len W
  have h_number_at : Has M "number_at" 1 P_number_at [] (spD M.G 2 f_number_at) := ⟨_, _, [], o_number_at, (He.glo_ok X G (c.fact 3 (f := .glo "number_at") rfl)), D_number_at.kp, D_number_at.bindsN fun _ _ _ _ _ _ us hl => match us, hl with | [_, _], _ => rfl, .nil⟩
  have o_Lowest___init__ : FnOk M.P M.w M.K M.mg M.base (L2.CX M.P M.w) 1 (He.ma M.K (He.ga M.K "Lowest") "__init__") d_Lowest___init__ P_Lowest___init__ (spD M.G 2 f_Lowest___init__) := fn_ok (M := M) D_Lowest___init__ sc_Lowest___init__ rfl fun W => b_Lowest___init__ M  W
  have F_Lowest___init__ : FnA M 1 (He.ma M.K (He.ga M.K "Lowest") "__init__") 2 f_Lowest___init__ := fnA_of o_Lowest___init__ (D_Lowest___init__.bindsN fun _ _ _ _ _ _ us hl => match us, hl with | [_, _], _ => rfl)
  have o_Function_degree : FnOk M.P M.w M.K M.mg M.base (L2.CX M.P M.w) 1 (prA M.K (He.ga M.K "Function") "degree") d_Function_degree P_Function_degree (spD M.G 1 f_Function_degree) := fn_ok (M := M) D_Function_degree sc_Function_degree rfl fun W => b_Function_degree M m_len W
  have F_Function_degree : FnA M 1 (prA M.K (He.ga M.K "Function") "degree") 1 f_Function_degree := fnA_of o_Function_degree (D_Function_degree.bindsN fun _ _ _ _ _ _ us hl => match us, hl with | [_], _ => rfl)
  have o_Function___eq__ : FnOk M.P M.w M.K M.mg M.base (L2.CX M.P M.w) 1 (He.ma M.K (He.ga M.K "Function") "__eq__") d_Function___eq__ P_Function___eq__ (spD M.G 2 f_Function___eq__) := fn_ok (M := M) D_Function___eq__ sc_Function___eq__ rfl fun W => b_Function___eq__ M c_Function hi_ m_isinstance W
  have F_Function___eq__ : FnA M 1 (He.ma M.K (He.ga M.K "Function") "__eq__") 2 f_Function___eq__ := fnA_of o_Function___eq__ (D_Function___eq__.bindsN fun _ _ _ _ _ _ us hl => match us, hl with | [_, _], _ => rfl)
  have o_require_function : FnOk M.P M.w M.K M.mg M.base (L2.CX M.P M.w) 1 (He.ga M.K "require_function") d_require_function P_require_function (spD M.G 1 f_require_function) := fn_ok (M := M) D_require_function sc_require_function rfl fun W => b_require_function M c_Function hi_ m_isinstance xr_InvalidFunction W
  have h_require_function : Has M "require_function" 1 P_require_function [] (spD M.G 1 f_require_function) := ⟨_, _, [], o_require_function, (He.glo_ok X G (c.fact 4 (f := .glo "require_function") rfl)), D_require_function.kp, D_require_function.bindsN fun _ _ _ _ _ _ us hl => match us, hl with | [_], _ => rfl, .nil⟩
  have o_require_same_prime : FnOk M.P M.w M.K M.mg M.base (L2.CX M.P M.w) 1 (He.ga M.K "require_same_prime") d_require_same_prime P_require_same_prime (spD M.G 2 f_require_same_prime) := fn_ok (M := M) D_require_same_prime sc_require_same_prime rfl fun W => b_require_same_prime M xr_InvalidOperation W
  have h_require_same_prime : Has M "require_same_prime" 1 P_require_same_prime [] (spD M.G 2 f_require_same_prime) := ⟨_, _, [], o_require_same_prime, (He.glo_ok X G (c.fact 5 (f := .glo "require_same_prime") rfl)), D_require_same_prime.kp, D_require_same_prime.bindsN fun _ _ _ _ _ _ us hl => match us, hl with | [_, _], _ => rfl, .nil⟩
  have o_trimmed_entries : FnOk M.P M.w M.K M.mg M.base (L2.CX M.P M.w) 1 (He.ga M.K "trimmed_entries") d_trimmed_entries P_trimmed_entries (spD M.G 1 f_trimmed_entries) := fn_ok (M := M) D_trimmed_entries sc_trimmed_entries rfl fun W => b_trimmed_entries M m_list m_tuple W
  have h_trimmed_entries : Has M "trimmed_entries" 1 P_trimmed_entries [] (spD M.G 1 f_trimmed_entries) := ⟨_, _, [], o_trimmed_entries, (He.glo_ok X G (c.fact 6 (f := .glo "trimmed_entries") rfl)), D_trimmed_entries.kp, D_trimmed_entries.bindsN fun _ _ _ _ _ _ us hl => match us, hl with | [_], _ => rfl, .nil⟩
  have o_KeptEntries___init__ : FnOk M.P M.w M.K M.mg M.base (L2.CX M.P M.w) 1 (He.ma M.K (He.ga M.K "KeptEntries") "__init__") d_KeptEntries___init__ P_KeptEntries___init__ (spD M.G 2 f_KeptEntries___init__) := fn_ok (M := M) D_KeptEntries___init__ sc_KeptEntries___init__ rfl fun W => b_KeptEntries___init__ M  W
  have F_KeptEntries___init__ : FnA M 1 (He.ma M.K (He.ga M.K "KeptEntries") "__init__") 2 f_KeptEntries___init__ := fnA_of o_KeptEntries___init__ (D_KeptEntries___init__.bindsN fun _ _ _ _ _ _ us hl => match us, hl with | [_, _], _ => rfl)
  have o_entries_told : FnOk M.P M.w M.K M.mg M.base (L2.CX M.P M.w) 1 (He.ga M.K "entries_told") d_entries_told P_entries_told (spD M.G 2 f_entries_told) := fn_ok (M := M) D_entries_told sc_entries_told rfl fun W => b_entries_told M c_KeptEntries hi_ m_isinstance m_tuple m_len g_MAX_ENTRIES xr_InvalidOperator c_Function m_all m_any xr_InvalidOperation W
  have h_entries_told : Has M "entries_told" 1 P_entries_told [] (spD M.G 2 f_entries_told) := ⟨_, _, [], o_entries_told, (He.glo_ok X G (c.fact 7 (f := .glo "entries_told") rfl)), D_entries_told.kp, D_entries_told.bindsN fun _ _ _ _ _ _ us hl => match us, hl with | [_, _], _ => rfl, .nil⟩
  have o_Operator_degree : FnOk M.P M.w M.K M.mg M.base (L2.CX M.P M.w) 1 (prA M.K (He.ga M.K "Operator") "degree") d_Operator_degree P_Operator_degree (spD M.G 1 f_Operator_degree) := fn_ok (M := M) D_Operator_degree sc_Operator_degree rfl fun W => b_Operator_degree M m_len W
  have F_Operator_degree : FnA M 1 (prA M.K (He.ga M.K "Operator") "degree") 1 f_Operator_degree := fnA_of o_Operator_degree (D_Operator_degree.bindsN fun _ _ _ _ _ _ us hl => match us, hl with | [_], _ => rfl)
  have o_Operator___len__ : FnOk M.P M.w M.K M.mg M.base (L2.CX M.P M.w) 1 (He.ma M.K (He.ga M.K "Operator") "__len__") d_Operator___len__ P_Operator___len__ (spD M.G 1 f_Operator___len__) := fn_ok (M := M) D_Operator___len__ sc_Operator___len__ rfl fun W => b_Operator___len__ M m_len W
  have F_Operator___len__ : FnA M 1 (He.ma M.K (He.ga M.K "Operator") "__len__") 1 f_Operator___len__ := fnA_of o_Operator___len__ (D_Operator___len__.bindsN fun _ _ _ _ _ _ us hl => match us, hl with | [_], _ => rfl)
  have o_require_operator : FnOk M.P M.w M.K M.mg M.base (L2.CX M.P M.w) 1 (He.ga M.K "require_operator") d_require_operator P_require_operator (spD M.G 1 f_require_operator) := fn_ok (M := M) D_require_operator sc_require_operator rfl fun W => b_require_operator M c_Operator hi_ m_isinstance xr_InvalidOperator W
  have h_require_operator : Has M "require_operator" 1 P_require_operator [] (spD M.G 1 f_require_operator) := ⟨_, _, [], o_require_operator, (He.glo_ok X G (c.fact 8 (f := .glo "require_operator") rfl)), D_require_operator.kp, D_require_operator.bindsN fun _ _ _ _ _ _ us hl => match us, hl with | [_], _ => rfl, .nil⟩
  have o__law_bag : FnOk M.P M.w M.K M.mg M.base (L2.CX M.P M.w) 1 (He.ga M.K "_law_bag") d__law_bag P__law_bag (spF M.G 2 f__law_bag) := fn_okL (M := M) D__law_bag sc__law_bag rfl fun W => b__law_bag M m_len m_abs m_int m_max W
  have h__law_bag : Has M "_law_bag" 1 P__law_bag [] (spF M.G 2 f__law_bag) := ⟨_, _, [], o__law_bag, (He.glo_ok X G (c.fact 9 (f := .glo "_law_bag") rfl)), D__law_bag.kp, D__law_bag.bindsN fun _ _ _ _ _ _ us hl => match us, hl with | [_, _], _ => rfl, .nil⟩
  have o__law_grab : FnOk M.P M.w M.K M.mg M.base (L2.CX M.P M.w) 1 (He.ga M.K "_law_grab") d__law_grab P__law_grab (spD M.G 2 f__law_grab) := fn_ok (M := M) D__law_grab sc__law_grab rfl fun W => b__law_grab M m_int W
  have h__law_grab : Has M "_law_grab" 1 P__law_grab [] (spD M.G 2 f__law_grab) := ⟨_, _, [], o__law_grab, (He.glo_ok X G (c.fact 10 (f := .glo "_law_grab") rfl)), D__law_grab.kp, D__law_grab.bindsN fun _ _ _ _ _ _ us hl => match us, hl with | [_, _], _ => rfl, .nil⟩
  have o_is_integer : FnOk M.P M.w M.K M.mg M.base (L2.CX M.P M.w) 2 (He.ga M.K "is_integer") d_is_integer P_is_integer (spD M.G 1 f_is_integer) := fn_ok (M := M) D_is_integer sc_is_integer rfl fun W => b_is_integer M h_is_whole g_MOST_FIGURES W
  have h_is_integer : Has M "is_integer" 2 P_is_integer [] (spD M.G 1 f_is_integer) := ⟨_, _, [], o_is_integer, (He.glo_ok X G (c.fact 11 (f := .glo "is_integer") rfl)), D_is_integer.kp, D_is_integer.bindsN fun _ _ _ _ _ _ us hl => match us, hl with | [_], _ => rfl, .nil⟩
  have o_is_within : FnOk M.P M.w M.K M.mg M.base (L2.CX M.P M.w) 2 (He.ga M.K "is_within") d_is_within P_is_within (spD M.G 3 f_is_within) := fn_ok (M := M) D_is_within sc_is_within rfl fun W => b_is_within M h_is_whole W
  have h_is_within : Has M "is_within" 2 P_is_within [] (spD M.G 3 f_is_within) := ⟨_, _, [], o_is_within, (He.glo_ok X G (c.fact 12 (f := .glo "is_within") rfl)), D_is_within.kp, D_is_within.bindsN fun _ _ _ _ _ _ us hl => match us, hl with | [_, _, _], _ => rfl, .nil⟩
  have o_require_prime : FnOk M.P M.w M.K M.mg M.base (L2.CX M.P M.w) 2 (He.ga M.K "require_prime") d_require_prime P_require_prime (spD M.G 1 f_require_prime) := fn_ok (M := M) D_require_prime sc_require_prime rfl fun W => b_require_prime M h_is_whole g_PRIMES xk_InvalidNumber W
  have h_require_prime : Has M "require_prime" 2 P_require_prime [] (spD M.G 1 f_require_prime) := ⟨_, _, [], o_require_prime, (He.glo_ok X G (c.fact 13 (f := .glo "require_prime") rfl)), D_require_prime.kp, D_require_prime.bindsN fun _ _ _ _ _ _ us hl => match us, hl with | [_], _ => rfl, .nil⟩
  have o_plus_in : FnOk M.P M.w M.K M.mg M.base (L2.CX M.P M.w) 2 (He.ga M.K "plus_in") d_plus_in P_plus_in (spD M.G 4 f_plus_in) := fn_ok (M := M) D_plus_in sc_plus_in rfl fun W => b_plus_in M h_number_at h_trimmed m_len m_max m_range W
  have h_plus_in : Has M "plus_in" 2 P_plus_in [] (spD M.G 4 f_plus_in) := ⟨_, _, [], o_plus_in, (He.glo_ok X G (c.fact 14 (f := .glo "plus_in") rfl)), D_plus_in.kp, D_plus_in.bindsN fun _ _ _ _ _ _ us hl => match us, hl with | [_, _, _, _], _ => rfl, .nil⟩
  have o_times_in : FnOk M.P M.w M.K M.mg M.base (L2.CX M.P M.w) 2 (He.ga M.K "times_in") d_times_in P_times_in (spD M.G 3 f_times_in) := fn_ok (M := M) D_times_in sc_times_in rfl fun W => b_times_in M h_trimmed m_len m_range m_enumerate W
  have h_times_in : Has M "times_in" 2 P_times_in [] (spD M.G 3 f_times_in) := ⟨_, _, [], o_times_in, (He.glo_ok X G (c.fact 15 (f := .glo "times_in") rfl)), D_times_in.kp, D_times_in.bindsN fun _ _ _ _ _ _ us hl => match us, hl with | [_, _, _], _ => rfl, .nil⟩
  have o_scaled_poly : FnOk M.P M.w M.K M.mg M.base (L2.CX M.P M.w) 2 (He.ga M.K "scaled_poly") d_scaled_poly P_scaled_poly (spD M.G 3 f_scaled_poly) := fn_ok (M := M) D_scaled_poly sc_scaled_poly rfl fun W => b_scaled_poly M h_trimmed W
  have h_scaled_poly : Has M "scaled_poly" 2 P_scaled_poly [] (spD M.G 3 f_scaled_poly) := ⟨_, _, [], o_scaled_poly, (He.glo_ok X G (c.fact 16 (f := .glo "scaled_poly") rfl)), D_scaled_poly.kp, D_scaled_poly.bindsN fun _ _ _ _ _ _ us hl => match us, hl with | [_, _, _], _ => rfl, .nil⟩
  have o_divided_in : FnOk M.P M.w M.K M.mg M.base (L2.CX M.P M.w) 2 (He.ga M.K "divided_in") d_divided_in P_divided_in (spD M.G 3 f_divided_in) := fn_ok (M := M) D_divided_in sc_divided_in rfl fun W => b_divided_in M h_undone_number h_trimmed m_len m_range m_enumerate W
  have h_divided_in : Has M "divided_in" 2 P_divided_in [] (spD M.G 3 f_divided_in) := ⟨_, _, [], o_divided_in, (He.glo_ok X G (c.fact 17 (f := .glo "divided_in") rfl)), D_divided_in.kp, D_divided_in.bindsN fun _ _ _ _ _ _ us hl => match us, hl with | [_, _, _], _ => rfl, .nil⟩
  have o_slope_of_poly : FnOk M.P M.w M.K M.mg M.base (L2.CX M.P M.w) 2 (He.ga M.K "slope_of_poly") d_slope_of_poly P_slope_of_poly (spD M.G 2 f_slope_of_poly) := fn_ok (M := M) D_slope_of_poly sc_slope_of_poly rfl fun W => b_slope_of_poly M h_trimmed m_enumerate W
  have h_slope_of_poly : Has M "slope_of_poly" 2 P_slope_of_poly [] (spD M.G 2 f_slope_of_poly) := ⟨_, _, [], o_slope_of_poly, (He.glo_ok X G (c.fact 18 (f := .glo "slope_of_poly") rfl)), D_slope_of_poly.kp, D_slope_of_poly.bindsN fun _ _ _ _ _ _ us hl => match us, hl with | [_, _], _ => rfl, .nil⟩
  have o_require_operand : FnOk M.P M.w M.K M.mg M.base (L2.CX M.P M.w) 2 (He.ga M.K "require_operand") d_require_operand P_require_operand (spD M.G 2 f_require_operand) := fn_ok (M := M) D_require_operand sc_require_operand rfl fun W => b_require_operand M h_require_same_prime c_Function hi_ m_isinstance m_TypeError W
  have h_require_operand : Has M "require_operand" 2 P_require_operand [] (spD M.G 2 f_require_operand) := ⟨_, _, [], o_require_operand, (He.glo_ok X G (c.fact 19 (f := .glo "require_operand") rfl)), D_require_operand.kp, D_require_operand.bindsN fun _ _ _ _ _ _ us hl => match us, hl with | [_, _], _ => rfl, .nil⟩
  have o_each_made : GFn M.P M.w M.K M.mg M.base 2 (He.ga M.K "each_made") d_each_made P_each_made (spG M.G 2 f_each_made) := gfn_ok (M := M) D_each_made sc_each_made rfl fun W => b_each_made M h_require_operator h_require_same_prime m_tuple hi_ m_isinstance c_Function m_all xr_InvalidFunction W
  have h_each_made : HasGn M "each_made" 2 P_each_made (spG M.G 2 f_each_made) := ⟨_, _, o_each_made, (He.glo_ok X G (c.fact 20 (f := .glo "each_made") rfl)), D_each_made.kp, D_each_made.bindsN fun _ _ _ _ _ _ us hl => match us, hl with | [_, _], _ => rfl⟩
  have o__law_one_of : FnOk M.P M.w M.K M.mg M.base (L2.CX M.P M.w) 2 (He.ga M.K "_law_one_of") d__law_one_of P__law_one_of (spD M.G 2 f__law_one_of) := fn_ok (M := M) D__law_one_of sc__law_one_of rfl fun W => b__law_one_of M h__law_grab m_len W
  have h__law_one_of : Has M "_law_one_of" 2 P__law_one_of [] (spD M.G 2 f__law_one_of) := ⟨_, _, [], o__law_one_of, (He.glo_ok X G (c.fact 21 (f := .glo "_law_one_of") rfl)), D__law_one_of.kp, D__law_one_of.bindsN fun _ _ _ _ _ _ us hl => match us, hl with | [_, _], _ => rfl, .nil⟩
  have o_require_within : FnOk M.P M.w M.K M.mg M.base (L2.CX M.P M.w) 3 (He.ga M.K "require_within") d_require_within P_require_within (spD M.G 3 f_require_within) := fn_ok (M := M) D_require_within sc_require_within rfl fun W => b_require_within M h_is_within xk_InvalidNumber W
  have h_require_within : Has M "require_within" 3 P_require_within [] (spD M.G 3 f_require_within) := ⟨_, _, [], o_require_within, (He.glo_ok X G (c.fact 22 (f := .glo "require_within") rfl)), D_require_within.kp, D_require_within.bindsN fun _ _ _ _ _ _ us hl => match us, hl with | [_, _, _], _ => rfl, .nil⟩
  have o_is_poly_any : FnOk M.P M.w M.K M.mg M.base (L2.CX M.P M.w) 3 (He.ga M.K "is_poly_any") d_is_poly_any P_is_poly_any (spD M.G 2 f_is_poly_any) := fn_ok (M := M) D_is_poly_any sc_is_poly_any rfl fun W => b_is_poly_any M h_is_within m_tuple hi_ m_isinstance m_all W
  have h_is_poly_any : Has M "is_poly_any" 3 P_is_poly_any [] (spD M.G 2 f_is_poly_any) := ⟨_, _, [], o_is_poly_any, (He.glo_ok X G (c.fact 23 (f := .glo "is_poly_any") rfl)), D_is_poly_any.kp, D_is_poly_any.bindsN fun _ _ _ _ _ _ us hl => match us, hl with | [_, _], _ => rfl, .nil⟩
  have o_monic_in : FnOk M.P M.w M.K M.mg M.base (L2.CX M.P M.w) 3 (He.ga M.K "monic_in") d_monic_in P_monic_in (spD M.G 2 f_monic_in) := fn_ok (M := M) D_monic_in sc_monic_in rfl fun W => b_monic_in M h_undone_number h_scaled_poly W
  have h_monic_in : Has M "monic_in" 3 P_monic_in [] (spD M.G 2 f_monic_in) := ⟨_, _, [], o_monic_in, (He.glo_ok X G (c.fact 24 (f := .glo "monic_in") rfl)), D_monic_in.kp, D_monic_in.bindsN fun _ _ _ _ _ _ us hl => match us, hl with | [_, _], _ => rfl, .nil⟩
  have o_Operator___init__ : FnOk M.P M.w M.K M.mg M.base (L2.CX M.P M.w) 3 (He.ma M.K (He.ga M.K "Operator") "__init__") d_Operator___init__ P_Operator___init__ (spD M.G 3 f_Operator___init__) := fn_ok (M := M) D_Operator___init__ sc_Operator___init__ rfl fun W => b_Operator___init__ M h_require_prime h_entries_told W
  have F_Operator___init__ : FnA M 3 (He.ma M.K (He.ga M.K "Operator") "__init__") 3 f_Operator___init__ := fnA_of o_Operator___init__ (D_Operator___init__.bindsN fun _ _ _ _ _ _ us hl => match us, hl with | [_, _, _], _ => rfl)
  have tE___eq___only_Function : ∀ c ff, (c, ff) ∈ ([("Function", f_Function___eq__)] : List (Str × FF)) → HasE M c 1 ff := tab_cons (hasE_of G_Function (c.bk 11 (b := (eqK "Function")) rfl) F_Function___eq__ (by decide)) (tab_nil)
  have o_Operator___eq__ : FnOk M.P M.w M.K M.mg M.base (L2.CX M.P M.w) 3 (He.ma M.K (He.ga M.K "Operator") "__eq__") d_Operator___eq__ P_Operator___eq__ (spD M.G 2 f_Operator___eq__) := fn_ok (M := M) D_Operator___eq__ sc_Operator___eq__ rfl fun W => b_Operator___eq__ M c_Operator hi_ m_isinstance tE___eq___only_Function W
  have F_Operator___eq__ : FnA M 3 (He.ma M.K (He.ga M.K "Operator") "__eq__") 2 f_Operator___eq__ := fnA_of o_Operator___eq__ (D_Operator___eq__.bindsN fun _ _ _ _ _ _ us hl => match us, hl with | [_, _], _ => rfl)
  have o_require_poly : FnOk M.P M.w M.K M.mg M.base (L2.CX M.P M.w) 4 (He.ga M.K "require_poly") d_require_poly P_require_poly (spD M.G 2 f_require_poly) := fn_ok (M := M) D_require_poly sc_require_poly rfl fun W => b_require_poly M h_is_poly_any m_len g_MAX_POWER xr_InvalidPoly W
  have h_require_poly : Has M "require_poly" 4 P_require_poly [] (spD M.G 2 f_require_poly) := ⟨_, _, [], o_require_poly, (He.glo_ok X G (c.fact 25 (f := .glo "require_poly") rfl)), D_require_poly.kp, D_require_poly.bindsN fun _ _ _ _ _ _ us hl => match us, hl with | [_, _], _ => rfl, .nil⟩
  have o_common_in : FnOk M.P M.w M.K M.mg M.base (L2.CX M.P M.w) 4 (He.ga M.K "common_in") d_common_in P_common_in (spD M.G 3 f_common_in) := fn_ok (M := M) D_common_in sc_common_in rfl fun W => b_common_in M h_divided_in h_monic_in W
  have h_common_in : Has M "common_in" 4 P_common_in [] (spD M.G 3 f_common_in) := ⟨_, _, [], o_common_in, (He.glo_ok X G (c.fact 26 (f := .glo "common_in") rfl)), D_common_in.kp, D_common_in.bindsN fun _ _ _ _ _ _ us hl => match us, hl with | [_, _, _], _ => rfl, .nil⟩
  have o_lowest_pair : FnOk M.P M.w M.K M.mg M.base (L2.CX M.P M.w) 5 (He.ga M.K "lowest_pair") d_lowest_pair P_lowest_pair (spD M.G 3 f_lowest_pair) := fn_ok (M := M) D_lowest_pair sc_lowest_pair rfl fun W => b_lowest_pair M h_common_in h_divided_in h_undone_number h_scaled_poly m_len W
  have h_lowest_pair : Has M "lowest_pair" 5 P_lowest_pair [] (spD M.G 3 f_lowest_pair) := ⟨_, _, [], o_lowest_pair, (He.glo_ok X G (c.fact 27 (f := .glo "lowest_pair") rfl)), D_lowest_pair.kp, D_lowest_pair.bindsN fun _ _ _ _ _ _ us hl => match us, hl with | [_, _, _], _ => rfl, .nil⟩
  have hc_KeptEntries : HasC M "KeptEntries" ["own_kept"] 1 2 f_KeptEntries___init__ := hasC_of G_KeptEntries (c.bk 12 (b := (sobB "KeptEntries" ["own_kept"])) rfl) (c.bk 13 (b := (mkK "KeptEntries")) rfl) F_KeptEntries___init__ (Nat.le_refl _)
  have hc_Operator : HasC M "Operator" ["own_entries", "own_prime"] 3 3 f_Operator___init__ := hasC_of G_Operator (c.bk 14 (b := (sobB "Operator" ["own_entries", "own_prime"])) rfl) (c.bk 15 (b := (mkK "Operator")) rfl) F_Operator___init__ (Nat.le_refl _)
  have o_made_operator : FnOk M.P M.w M.K M.mg M.base (L2.CX M.P M.w) 5 (He.ga M.K "made_operator") d_made_operator P_made_operator (spD M.G 2 f_made_operator) := fn_ok (M := M) D_made_operator sc_made_operator rfl fun W => b_made_operator M h_trimmed_entries hc_KeptEntries hc_Operator W
  have h_made_operator : Has M "made_operator" 5 P_made_operator [] (spD M.G 2 f_made_operator) := ⟨_, _, [], o_made_operator, (He.glo_ok X G (c.fact 28 (f := .glo "made_operator") rfl)), D_made_operator.kp, D_made_operator.bindsN fun _ _ _ _ _ _ us hl => match us, hl with | [_, _], _ => rfl, .nil⟩
  have o_Function___init__ : FnOk M.P M.w M.K M.mg M.base (L2.CX M.P M.w) 6 (He.ma M.K (He.ga M.K "Function") "__init__") d_Function___init__ P_Function___init__ (spD M.G 4 f_Function___init__) := fn_ok (M := M) D_Function___init__ sc_Function___init__ rfl fun W => b_Function___init__ M h_require_prime h_require_poly h_lowest_pair c_Lowest hi_ m_isinstance xr_InvalidOperation W
  have F_Function___init__ : FnA M 6 (He.ma M.K (He.ga M.K "Function") "__init__") 4 f_Function___init__ := fnA_of o_Function___init__ (D_Function___init__.bindsN fun _ _ _ _ _ _ us hl => match us, hl with | [_, _, _, _], _ => rfl)
  have o_Operator_times : FnOk M.P M.w M.K M.mg M.base (L2.CX M.P M.w) 6 (cmA M.K (He.ga M.K "Operator") "times") d_Operator_times P_Operator_times (spD M.G 2 f_Operator_times) := fn_ok (M := M) D_Operator_times sc_Operator_times rfl fun W => b_Operator_times M h_require_function h_made_operator W
  have F_Operator_times : FnA M 6 (cmA M.K (He.ga M.K "Operator") "times") 2 f_Operator_times := fnA_of o_Operator_times (D_Operator_times.bindsN fun _ _ _ _ _ _ us hl => match us, hl with | [_, _], _ => rfl)
  have hc_Lowest : HasC M "Lowest" ["own_pair"] 1 2 f_Lowest___init__ := hasC_of G_Lowest (c.bk 16 (b := (sobB "Lowest" ["own_pair"])) rfl) (c.bk 17 (b := (mkK "Lowest")) rfl) F_Lowest___init__ (Nat.le_refl _)
  have hc_Function : HasC M "Function" ["own_bottom", "own_prime", "own_top"] 6 4 f_Function___init__ := hasC_of G_Function (c.bk 18 (b := (sobB "Function" ["own_bottom", "own_prime", "own_top"])) rfl) (c.bk 19 (b := (mkK "Function")) rfl) F_Function___init__ (Nat.le_refl _)
  have o_Function_number : FnOk M.P M.w M.K M.mg M.base (L2.CX M.P M.w) 8 (cmA M.K (He.ga M.K "Function") "number") d_Function_number P_Function_number (spD M.G 3 f_Function_number) := fn_ok (M := M) D_Function_number sc_Function_number rfl fun W => b_Function_number M h_require_prime h_is_integer h_trimmed xk_InvalidNumber hc_Lowest hc_Function W
  have F_Function_number : FnA M 8 (cmA M.K (He.ga M.K "Function") "number") 3 f_Function_number := fnA_of o_Function_number (D_Function_number.bindsN fun _ _ _ _ _ _ us hl => match us, hl with | [_, _, _], _ => rfl)
  have o_Function___neg__ : FnOk M.P M.w M.K M.mg M.base (L2.CX M.P M.w) 8 (He.ma M.K (He.ga M.K "Function") "__neg__") d_Function___neg__ P_Function___neg__ (spD M.G 1 f_Function___neg__) := fn_ok (M := M) D_Function___neg__ sc_Function___neg__ rfl fun W => b_Function___neg__ M h_scaled_poly hc_Lowest hc_Function W
  have F_Function___neg__ : FnA M 8 (He.ma M.K (He.ga M.K "Function") "__neg__") 1 f_Function___neg__ := fnA_of o_Function___neg__ (D_Function___neg__.bindsN fun _ _ _ _ _ _ us hl => match us, hl with | [_], _ => rfl)
  have o_made_function : FnOk M.P M.w M.K M.mg M.base (L2.CX M.P M.w) 8 (He.ga M.K "made_function") d_made_function P_made_function (spD M.G 3 f_made_function) := fn_ok (M := M) D_made_function sc_made_function rfl fun W => b_made_function M h_trimmed h_lowest_pair hc_Lowest hc_Function W
  have h_made_function : Has M "made_function" 8 P_made_function [] (spD M.G 3 f_made_function) := ⟨_, _, [], o_made_function, (He.glo_ok X G (c.fact 29 (f := .glo "made_function") rfl)), D_made_function.kp, D_made_function.bindsN fun _ _ _ _ _ _ us hl => match us, hl with | [_, _, _], _ => rfl, .nil⟩
  have o_zero_of : FnOk M.P M.w M.K M.mg M.base (L2.CX M.P M.w) 8 (He.ga M.K "zero_of") d_zero_of P_zero_of (spD M.G 1 f_zero_of) := fn_ok (M := M) D_zero_of sc_zero_of rfl fun W => b_zero_of M hc_Lowest hc_Function W
  have h_zero_of : Has M "zero_of" 8 P_zero_of [] (spD M.G 1 f_zero_of) := ⟨_, _, [], o_zero_of, (He.glo_ok X G (c.fact 30 (f := .glo "zero_of") rfl)), D_zero_of.kp, D_zero_of.bindsN fun _ _ _ _ _ _ us hl => match us, hl with | [_], _ => rfl, .nil⟩
  have o_unit_of : FnOk M.P M.w M.K M.mg M.base (L2.CX M.P M.w) 8 (He.ga M.K "unit_of") d_unit_of P_unit_of (spD M.G 1 f_unit_of) := fn_ok (M := M) D_unit_of sc_unit_of rfl fun W => b_unit_of M hc_Lowest hc_Function W
  have h_unit_of : Has M "unit_of" 8 P_unit_of [] (spD M.G 1 f_unit_of) := ⟨_, _, [], o_unit_of, (He.glo_ok X G (c.fact 31 (f := .glo "unit_of") rfl)), D_unit_of.kp, D_unit_of.bindsN fun _ _ _ _ _ _ us hl => match us, hl with | [_], _ => rfl, .nil⟩
  have o_sum_of : FnOk M.P M.w M.K M.mg M.base (L2.CX M.P M.w) 9 (He.ga M.K "sum_of") d_sum_of P_sum_of (spD M.G 3 f_sum_of) := fn_ok (M := M) D_sum_of sc_sum_of rfl fun W => b_sum_of M h_plus_in h_made_function h_times_in W
  have h_sum_of : Has M "sum_of" 9 P_sum_of [] (spD M.G 3 f_sum_of) := ⟨_, _, [], o_sum_of, (He.glo_ok X G (c.fact 32 (f := .glo "sum_of") rfl)), D_sum_of.kp, D_sum_of.bindsN fun _ _ _ _ _ _ us hl => match us, hl with | [_, _, _], _ => rfl, .nil⟩
  have o_product_of : FnOk M.P M.w M.K M.mg M.base (L2.CX M.P M.w) 9 (He.ga M.K "product_of") d_product_of P_product_of (spD M.G 2 f_product_of) := fn_ok (M := M) D_product_of sc_product_of rfl fun W => b_product_of M h_times_in h_made_function W
  have h_product_of : Has M "product_of" 9 P_product_of [] (spD M.G 2 f_product_of) := ⟨_, _, [], o_product_of, (He.glo_ok X G (c.fact 33 (f := .glo "product_of") rfl)), D_product_of.kp, D_product_of.bindsN fun _ _ _ _ _ _ us hl => match us, hl with | [_, _], _ => rfl, .nil⟩
  have o_undone_of : FnOk M.P M.w M.K M.mg M.base (L2.CX M.P M.w) 9 (He.ga M.K "undone_of") d_undone_of P_undone_of (spD M.G 1 f_undone_of) := fn_ok (M := M) D_undone_of sc_undone_of rfl fun W => b_undone_of M h_made_function W
  have h_undone_of : Has M "undone_of" 9 P_undone_of [] (spD M.G 1 f_undone_of) := ⟨_, _, [], o_undone_of, (He.glo_ok X G (c.fact 34 (f := .glo "undone_of") rfl)), D_undone_of.kp, D_undone_of.bindsN fun _ _ _ _ _ _ us hl => match us, hl with | [_], _ => rfl, .nil⟩
  have o_slope_of : FnOk M.P M.w M.K M.mg M.base (L2.CX M.P M.w) 9 (He.ga M.K "slope_of") d_slope_of P_slope_of (spD M.G 1 f_slope_of) := fn_ok (M := M) D_slope_of sc_slope_of rfl fun W => b_slope_of M h_slope_of_poly h_times_in h_plus_in h_made_function W
  have h_slope_of : Has M "slope_of" 9 P_slope_of [] (spD M.G 1 f_slope_of) := ⟨_, _, [], o_slope_of, (He.glo_ok X G (c.fact 35 (f := .glo "slope_of") rfl)), D_slope_of.kp, D_slope_of.bindsN fun _ _ _ _ _ _ us hl => match us, hl with | [_], _ => rfl, .nil⟩
  have o_Operator_slopes : FnOk M.P M.w M.K M.mg M.base (L2.CX M.P M.w) 9 (cmA M.K (He.ga M.K "Operator") "slopes") d_Operator_slopes P_Operator_slopes (spD M.G 3 f_Operator_slopes) := fn_ok (M := M) D_Operator_slopes sc_Operator_slopes rfl fun W => b_Operator_slopes M h_require_prime h_require_within h_zero_of h_unit_of g_MAX_RAISED_operators hc_Operator W
  have F_Operator_slopes : FnA M 9 (cmA M.K (He.ga M.K "Operator") "slopes") 3 f_Operator_slopes := fnA_of o_Operator_slopes (D_Operator_slopes.bindsN fun _ _ _ _ _ _ us hl => match us, hl with | [_, _, _], _ => rfl)
  have tU___neg___only_Function : ∀ c ff, (c, ff) ∈ ([("Function", f_Function___neg__)] : List (Str × FF)) → HasU M c "__neg__" 8 ff := tab_cons (hasU_of G_Function (c.bk 20 (b := (unK "Function" "__neg__")) rfl) F_Function___neg__ (by decide)) (tab_nil)
  have o_Operator_factor : FnOk M.P M.w M.K M.mg M.base (L2.CX M.P M.w) 9 (cmA M.K (He.ga M.K "Operator") "factor") d_Operator_factor P_Operator_factor (spD M.G 2 f_Operator_factor) := fn_ok (M := M) D_Operator_factor sc_Operator_factor rfl fun W => b_Operator_factor M h_require_function h_unit_of tU___neg___only_Function hc_Operator W
  have F_Operator_factor : FnA M 9 (cmA M.K (He.ga M.K "Operator") "factor") 2 f_Operator_factor := fnA_of o_Operator_factor (D_Operator_factor.bindsN fun _ _ _ _ _ _ us hl => match us, hl with | [_, _], _ => rfl)
  have o_Operator_entry : FnOk M.P M.w M.K M.mg M.base (L2.CX M.P M.w) 9 (He.ma M.K (He.ga M.K "Operator") "entry") d_Operator_entry P_Operator_entry (spD M.G 2 f_Operator_entry) := fn_ok (M := M) D_Operator_entry sc_Operator_entry rfl fun W => b_Operator_entry M h_require_within h_zero_of g_MOST_INDEX m_len W
  have F_Operator_entry : FnA M 9 (He.ma M.K (He.ga M.K "Operator") "entry") 2 f_Operator_entry := fnA_of o_Operator_entry (D_Operator_entry.bindsN fun _ _ _ _ _ _ us hl => match us, hl with | [_, _], _ => rfl)
  have o_Function___add__ : FnOk M.P M.w M.K M.mg M.base (L2.CX M.P M.w) 10 (He.ma M.K (He.ga M.K "Function") "__add__") d_Function___add__ P_Function___add__ (spD M.G 2 f_Function___add__) := fn_ok (M := M) D_Function___add__ sc_Function___add__ rfl fun W => b_Function___add__ M h_require_operand h_sum_of W
  have F_Function___add__ : FnA M 10 (He.ma M.K (He.ga M.K "Function") "__add__") 2 f_Function___add__ := fnA_of o_Function___add__ (D_Function___add__.bindsN fun _ _ _ _ _ _ us hl => match us, hl with | [_, _], _ => rfl)
  have o_Function___sub__ : FnOk M.P M.w M.K M.mg M.base (L2.CX M.P M.w) 10 (He.ma M.K (He.ga M.K "Function") "__sub__") d_Function___sub__ P_Function___sub__ (spD M.G 2 f_Function___sub__) := fn_ok (M := M) D_Function___sub__ sc_Function___sub__ rfl fun W => b_Function___sub__ M h_require_operand h_sum_of W
  have F_Function___sub__ : FnA M 10 (He.ma M.K (He.ga M.K "Function") "__sub__") 2 f_Function___sub__ := fnA_of o_Function___sub__ (D_Function___sub__.bindsN fun _ _ _ _ _ _ us hl => match us, hl with | [_, _], _ => rfl)
  have o_Function___mul__ : FnOk M.P M.w M.K M.mg M.base (L2.CX M.P M.w) 10 (He.ma M.K (He.ga M.K "Function") "__mul__") d_Function___mul__ P_Function___mul__ (spD M.G 2 f_Function___mul__) := fn_ok (M := M) D_Function___mul__ sc_Function___mul__ rfl fun W => b_Function___mul__ M h_require_operand h_product_of W
  have F_Function___mul__ : FnA M 10 (He.ma M.K (He.ga M.K "Function") "__mul__") 2 f_Function___mul__ := fnA_of o_Function___mul__ (D_Function___mul__.bindsN fun _ _ _ _ _ _ us hl => match us, hl with | [_, _], _ => rfl)
  have o_Function___floordiv__ : FnOk M.P M.w M.K M.mg M.base (L2.CX M.P M.w) 10 (He.ma M.K (He.ga M.K "Function") "__floordiv__") d_Function___floordiv__ P_Function___floordiv__ (spD M.G 2 f_Function___floordiv__) := fn_ok (M := M) D_Function___floordiv__ sc_Function___floordiv__ rfl fun W => b_Function___floordiv__ M h_require_operand h_undone_of h_product_of xr_InvalidOperation W
  have F_Function___floordiv__ : FnA M 10 (He.ma M.K (He.ga M.K "Function") "__floordiv__") 2 f_Function___floordiv__ := fnA_of o_Function___floordiv__ (D_Function___floordiv__.bindsN fun _ _ _ _ _ _ us hl => match us, hl with | [_, _], _ => rfl)
  have o_is_of_t : FnOk M.P M.w M.K M.mg M.base (L2.CX M.P M.w) 10 (He.ga M.K "is_of_t") d_is_of_t P_is_of_t (spD M.G 1 f_is_of_t) := fn_ok (M := M) D_is_of_t sc_is_of_t rfl fun W => b_is_of_t M h_slope_of W
  have h_is_of_t : Has M "is_of_t" 10 P_is_of_t [] (spD M.G 1 f_is_of_t) := ⟨_, _, [], o_is_of_t, (He.glo_ok X G (c.fact 36 (f := .glo "is_of_t") rfl)), D_is_of_t.kp, D_is_of_t.bindsN fun _ _ _ _ _ _ us hl => match us, hl with | [_], _ => rfl, .nil⟩
  have tB___sub___only_Function : ∀ c ff, (c, ff) ∈ ([("Function", f_Function___sub__)] : List (Str × FF)) → HasB M c "__sub__" 10 ff := tab_cons (hasB_of G_Function (c.bk 21 (b := (binK "Function" "__sub__")) rfl) F_Function___sub__ (by decide)) (tab_nil)
  have tB___mul___only_Function : ∀ c ff, (c, ff) ∈ ([("Function", f_Function___mul__)] : List (Str × FF)) → HasB M c "__mul__" 10 ff := tab_cons (hasB_of G_Function (c.bk 22 (b := (binK "Function" "__mul__")) rfl) F_Function___mul__ (by decide)) (tab_nil)
  have tB___add___only_Function : ∀ c ff, (c, ff) ∈ ([("Function", f_Function___add__)] : List (Str × FF)) → HasB M c "__add__" 10 ff := tab_cons (hasB_of G_Function (c.bk 23 (b := (binK "Function" "__add__")) rfl) F_Function___add__ (by decide)) (tab_nil)
  have o_sum_in : FnOk M.P M.w M.K M.mg M.base (L2.CX M.P M.w) 11 (He.ga M.K "sum_in") d_sum_in P_sum_in (spD M.G 3 f_sum_in) := fn_ok (M := M) D_sum_in sc_sum_in rfl fun W => b_sum_in M h_zero_of h_made_function h_made_operator m_len m_max tB___sub___only_Function m_zip tB___mul___only_Function tB___add___only_Function W
  have h_sum_in : Has M "sum_in" 11 P_sum_in [] (spD M.G 3 f_sum_in) := ⟨_, _, [], o_sum_in, (He.glo_ok X G (c.fact 37 (f := .glo "sum_in") rfl)), D_sum_in.kp, D_sum_in.bindsN fun _ _ _ _ _ _ us hl => match us, hl with | [_, _, _], _ => rfl, .nil⟩
  have o_scaled_in : FnOk M.P M.w M.K M.mg M.base (L2.CX M.P M.w) 11 (He.ga M.K "scaled_in") d_scaled_in P_scaled_in (spD M.G 2 f_scaled_in) := fn_ok (M := M) D_scaled_in sc_scaled_in rfl fun W => b_scaled_in M h_made_operator tB___mul___only_Function W
  have h_scaled_in : Has M "scaled_in" 11 P_scaled_in [] (spD M.G 2 f_scaled_in) := ⟨_, _, [], o_scaled_in, (He.glo_ok X G (c.fact 38 (f := .glo "scaled_in") rfl)), D_scaled_in.kp, D_scaled_in.bindsN fun _ _ _ _ _ _ us hl => match us, hl with | [_, _], _ => rfl, .nil⟩
  have o_slope_ahead : FnOk M.P M.w M.K M.mg M.base (L2.CX M.P M.w) 11 (He.ga M.K "slope_ahead") d_slope_ahead P_slope_ahead (spD M.G 1 f_slope_ahead) := fn_ok (M := M) D_slope_ahead sc_slope_ahead rfl fun W => b_slope_ahead M h_zero_of h_slope_of h_made_operator m_zip m_list tB___add___only_Function W
  have h_slope_ahead : Has M "slope_ahead" 11 P_slope_ahead [] (spD M.G 1 f_slope_ahead) := ⟨_, _, [], o_slope_ahead, (He.glo_ok X G (c.fact 39 (f := .glo "slope_ahead") rfl)), D_slope_ahead.kp, D_slope_ahead.bindsN fun _ _ _ _ _ _ us hl => match us, hl with | [_], _ => rfl, .nil⟩
  have o_applied_to : FnOk M.P M.w M.K M.mg M.base (L2.CX M.P M.w) 11 (He.ga M.K "applied_to") d_applied_to P_applied_to (spD M.G 2 f_applied_to) := fn_ok (M := M) D_applied_to sc_applied_to rfl fun W => b_applied_to M h_zero_of h_slope_of tB___mul___only_Function tB___add___only_Function W
  have h_applied_to : Has M "applied_to" 11 P_applied_to [] (spD M.G 2 f_applied_to) := ⟨_, _, [], o_applied_to, (He.glo_ok X G (c.fact 40 (f := .glo "applied_to") rfl)), D_applied_to.kp, D_applied_to.bindsN fun _ _ _ _ _ _ us hl => match us, hl with | [_, _], _ => rfl, .nil⟩
  have o_is_central : FnOk M.P M.w M.K M.mg M.base (L2.CX M.P M.w) 11 (He.ga M.K "is_central") d_is_central P_is_central (spD M.G 1 f_is_central) := fn_ok (M := M) D_is_central sc_is_central rfl fun W => b_is_central M h_require_operator h_is_of_t m_enumerate W
  have h_is_central : Has M "is_central" 11 P_is_central [] (spD M.G 1 f_is_central) := ⟨_, _, [], o_is_central, (He.glo_ok X G (c.fact 41 (f := .glo "is_central") rfl)), D_is_central.kp, D_is_central.bindsN fun _ _ _ _ _ _ us hl => match us, hl with | [_], _ => rfl, .nil⟩
  have o_product_in : FnOk M.P M.w M.K M.mg M.base (L2.CX M.P M.w) 12 (He.ga M.K "product_in") d_product_in P_product_in (spD M.G 2 f_product_in) := fn_ok (M := M) D_product_in sc_product_in rfl fun W => b_product_in M h_made_operator h_scaled_in h_sum_in h_slope_ahead W
  have h_product_in : Has M "product_in" 12 P_product_in [] (spD M.G 2 f_product_in) := ⟨_, _, [], o_product_in, (He.glo_ok X G (c.fact 42 (f := .glo "product_in") rfl)), D_product_in.kp, D_product_in.bindsN fun _ _ _ _ _ _ us hl => match us, hl with | [_, _], _ => rfl, .nil⟩
  have o_Operator_led : FnOk M.P M.w M.K M.mg M.base (L2.CX M.P M.w) 12 (He.ma M.K (He.ga M.K "Operator") "led") d_Operator_led P_Operator_led (spD M.G 2 f_Operator_led) := fn_ok (M := M) D_Operator_led sc_Operator_led rfl fun W => b_Operator_led M h_require_function h_require_same_prime h_scaled_in W
  have F_Operator_led : FnA M 12 (He.ma M.K (He.ga M.K "Operator") "led") 2 f_Operator_led := fnA_of o_Operator_led (D_Operator_led.bindsN fun _ _ _ _ _ _ us hl => match us, hl with | [_, _], _ => rfl)
  have tB___floordiv___only_Function : ∀ c ff, (c, ff) ∈ ([("Function", f_Function___floordiv__)] : List (Str × FF)) → HasB M c "__floordiv__" 10 ff := tab_cons (hasB_of G_Function (c.bk 24 (b := (binK "Function" "__floordiv__")) rfl) F_Function___floordiv__ (by decide)) (tab_nil)
  have o_Operator_monic : FnOk M.P M.w M.K M.mg M.base (L2.CX M.P M.w) 12 (He.ma M.K (He.ga M.K "Operator") "monic") d_Operator_monic P_Operator_monic (spD M.G 1 f_Operator_monic) := fn_ok (M := M) D_Operator_monic sc_Operator_monic rfl fun W => b_Operator_monic M h_unit_of h_scaled_in xr_InvalidOperation tB___floordiv___only_Function W
  have F_Operator_monic : FnA M 12 (He.ma M.K (He.ga M.K "Operator") "monic") 1 f_Operator_monic := fnA_of o_Operator_monic (D_Operator_monic.bindsN fun _ _ _ _ _ _ us hl => match us, hl with | [_], _ => rfl)
  have o_Operator___call__ : FnOk M.P M.w M.K M.mg M.base (L2.CX M.P M.w) 12 (He.ma M.K (He.ga M.K "Operator") "__call__") d_Operator___call__ P_Operator___call__ (spD M.G 2 f_Operator___call__) := fn_ok (M := M) D_Operator___call__ sc_Operator___call__ rfl fun W => b_Operator___call__ M h_require_function h_require_same_prime h_applied_to W
  have F_Operator___call__ : FnA M 12 (He.ma M.K (He.ga M.K "Operator") "__call__") 2 f_Operator___call__ := fnA_of o_Operator___call__ (D_Operator___call__.bindsN fun _ _ _ _ _ _ us hl => match us, hl with | [_, _], _ => rfl)
  have o_Operator___add__ : FnOk M.P M.w M.K M.mg M.base (L2.CX M.P M.w) 12 (He.ma M.K (He.ga M.K "Operator") "__add__") d_Operator___add__ P_Operator___add__ (spD M.G 2 f_Operator___add__) := fn_ok (M := M) D_Operator___add__ sc_Operator___add__ rfl fun W => b_Operator___add__ M h_require_same_prime h_sum_in c_Operator hi_ m_isinstance W
  have F_Operator___add__ : FnA M 12 (He.ma M.K (He.ga M.K "Operator") "__add__") 2 f_Operator___add__ := fnA_of o_Operator___add__ (D_Operator___add__.bindsN fun _ _ _ _ _ _ us hl => match us, hl with | [_, _], _ => rfl)
  have o_Operator___sub__ : FnOk M.P M.w M.K M.mg M.base (L2.CX M.P M.w) 12 (He.ma M.K (He.ga M.K "Operator") "__sub__") d_Operator___sub__ P_Operator___sub__ (spD M.G 2 f_Operator___sub__) := fn_ok (M := M) D_Operator___sub__ sc_Operator___sub__ rfl fun W => b_Operator___sub__ M h_require_same_prime h_sum_in c_Operator hi_ m_isinstance W
  have F_Operator___sub__ : FnA M 12 (He.ma M.K (He.ga M.K "Operator") "__sub__") 2 f_Operator___sub__ := fnA_of o_Operator___sub__ (D_Operator___sub__.bindsN fun _ _ _ _ _ _ us hl => match us, hl with | [_, _], _ => rfl)
  have o_raised_operator : FnOk M.P M.w M.K M.mg M.base (L2.CX M.P M.w) 13 (He.ga M.K "raised_operator") d_raised_operator P_raised_operator (spD M.G 2 f_raised_operator) := fn_ok (M := M) D_raised_operator sc_raised_operator rfl fun W => b_raised_operator M h_require_within h_unit_of h_made_operator h_product_in g_MAX_RAISED_operators m_range W
  have h_raised_operator : Has M "raised_operator" 13 P_raised_operator [] (spD M.G 2 f_raised_operator) := ⟨_, _, [], o_raised_operator, (He.glo_ok X G (c.fact 43 (f := .glo "raised_operator") rfl)), D_raised_operator.kp, D_raised_operator.bindsN fun _ _ _ _ _ _ us hl => match us, hl with | [_, _], _ => rfl, .nil⟩
  have o_Operator___mul__ : FnOk M.P M.w M.K M.mg M.base (L2.CX M.P M.w) 13 (He.ma M.K (He.ga M.K "Operator") "__mul__") d_Operator___mul__ P_Operator___mul__ (spD M.G 2 f_Operator___mul__) := fn_ok (M := M) D_Operator___mul__ sc_Operator___mul__ rfl fun W => b_Operator___mul__ M h_require_same_prime h_product_in c_Operator hi_ m_isinstance W
  have F_Operator___mul__ : FnA M 13 (He.ma M.K (He.ga M.K "Operator") "__mul__") 2 f_Operator___mul__ := fnA_of o_Operator___mul__ (D_Operator___mul__.bindsN fun _ _ _ _ _ _ us hl => match us, hl with | [_, _], _ => rfl)
  have o_commutator : FnOk M.P M.w M.K M.mg M.base (L2.CX M.P M.w) 13 (He.ga M.K "commutator") d_commutator P_commutator (spD M.G 2 f_commutator) := fn_ok (M := M) D_commutator sc_commutator rfl fun W => b_commutator M h_require_operator h_require_same_prime h_product_in h_sum_in W
  have h_commutator : Has M "commutator" 13 P_commutator [] (spD M.G 2 f_commutator) := ⟨_, _, [], o_commutator, (He.glo_ok X G (c.fact 44 (f := .glo "commutator") rfl)), D_commutator.kp, D_commutator.bindsN fun _ _ _ _ _ _ us hl => match us, hl with | [_, _], _ => rfl, .nil⟩
  have o_Operator___pow__ : FnOk M.P M.w M.K M.mg M.base (L2.CX M.P M.w) 14 (He.ma M.K (He.ga M.K "Operator") "__pow__") d_Operator___pow__ P_Operator___pow__ (spD M.G 2 f_Operator___pow__) := fn_ok (M := M) D_Operator___pow__ sc_Operator___pow__ rfl fun W => b_Operator___pow__ M h_raised_operator W
  have F_Operator___pow__ : FnA M 14 (He.ma M.K (He.ga M.K "Operator") "__pow__") 2 f_Operator___pow__ := fnA_of o_Operator___pow__ (D_Operator___pow__.bindsN fun _ _ _ _ _ _ us hl => match us, hl with | [_, _], _ => rfl)
  have tT___pow___only_Operator : ∀ c ff, (c, ff) ∈ ([("Operator", f_Operator___pow__)] : List (Str × FF)) → HasBT M c .Pow 14 ff := tab_cons (hasBT_of G_Operator (c.bk 25 (b := (btK "Operator" .Pow)) rfl) F_Operator___pow__ (by decide)) (tab_nil)
  have tC_number : ∀ c ff, (c, ff) ∈ ([("Function", f_Function_number)] : List (Str × FF)) → HasCM M c "number" 8 3 ff := tab_cons (hasCM_of G_Function (c.bk 26 (b := (cmK "Function" "number")) rfl) F_Function_number (by decide)) (tab_nil)
  have tB___mul___only_Operator : ∀ c ff, (c, ff) ∈ ([("Operator", f_Operator___mul__)] : List (Str × FF)) → HasB M c "__mul__" 13 ff := tab_cons (hasB_of G_Operator (c.bk 27 (b := (binK "Operator" "__mul__")) rfl) F_Operator___mul__ (by decide)) (tab_nil)
  have tC_slopes : ∀ c ff, (c, ff) ∈ ([("Operator", f_Operator_slopes)] : List (Str × FF)) → HasCM M c "slopes" 9 3 ff := tab_cons (hasCM_of G_Operator (c.bk 28 (b := (cmK "Operator" "slopes")) rfl) F_Operator_slopes (by decide)) (tab_nil)
  have tB___add___only_Operator : ∀ c ff, (c, ff) ∈ ([("Operator", f_Operator___add__)] : List (Str × FF)) → HasB M c "__add__" 12 ff := tab_cons (hasB_of G_Operator (c.bk 29 (b := (binK "Operator" "__add__")) rfl) F_Operator___add__ (by decide)) (tab_nil)
  have tC_factor : ∀ c ff, (c, ff) ∈ ([("Operator", f_Operator_factor)] : List (Str × FF)) → HasCM M c "factor" 9 2 ff := tab_cons (hasCM_of G_Operator (c.bk 30 (b := (cmK "Operator" "factor")) rfl) F_Operator_factor (by decide)) (tab_nil)
  have tC_times : ∀ c ff, (c, ff) ∈ ([("Operator", f_Operator_times)] : List (Str × FF)) → HasCM M c "times" 6 2 ff := tab_cons (hasCM_of G_Operator (c.bk 31 (b := (cmK "Operator" "times")) rfl) F_Operator_times (by decide)) (tab_nil)
  have o__law_made_right : FnG M.P M.w M.K M.mg M.base (L2.CX M.P M.w) 16 (He.ga M.K "_law_made_right") d__law_made_right P__law_made_right (spD M.G 1 f__law_made_right) := fn_okG (M := M) (la := some (cdA M.K (He.ga M.K "_law_made_right"), cdT M.K (He.ga M.K "_law_made_right"), ("_law_made_right" : Str) ++ ".<locals>.")) D__law_made_right sc__law_made_right rfl (fun cc TT qq z => by cases z; exact ⟨rfl, rfl, laOk_of (M := M) (p := (fun K => He.ga K "_law_made_right", lamQ "_law_made_right")) (x := "_law_made_right") rfl rfl (List.mem_of_getElem? (i := 0) rfl) c0.t.code TB⟩) fun W => b__law_made_right M h__law_one_of tT___pow___only_Operator c_Function tC_number tB___mul___only_Operator c_Operator tC_slopes hc_Operator m_repr tB___add___only_Operator tC_factor tC_times c_InvalidOperation c_InvalidOperator c_InvalidFunction xf_InvalidNumber c_InvalidNumber st__law_fault mt__law_fault _ _ _ W
  have h__law_made_right : HasG M "_law_made_right" 16 P__law_made_right [] (spD M.G 1 f__law_made_right) := ⟨_, _, [], o__law_made_right, (He.glo_ok X G (c.fact 45 (f := .glo "_law_made_right") rfl)), D__law_made_right.kp, D__law_made_right.bindsN fun _ _ _ _ _ _ us hl => match us, hl with | [_], _ => rfl, .nil⟩
  have tO___call___only_Operator : ∀ c ff, (c, ff) ∈ ([("Operator", f_Operator___call__)] : List (Str × FF)) → HasCO M c 12 2 ff := tab_cons (hasCO_of G_Operator (c.bk 32 (b := (callK "Operator")) rfl) F_Operator___call__ (by decide)) (tab_nil)
  have tM_led : ∀ c ff, (c, ff) ∈ ([("Operator", f_Operator_led)] : List (Str × FF)) → HasM M c "led" 12 2 ff := tab_cons (hasM_of G_Operator (c.bk 33 (b := (methK "Operator" "led")) rfl) F_Operator_led (by decide)) (tab_nil)
  have tM_entry : ∀ c ff, (c, ff) ∈ ([("Operator", f_Operator_entry)] : List (Str × FF)) → HasM M c "entry" 9 2 ff := tab_cons (hasM_of G_Operator (c.bk 34 (b := (methK "Operator" "entry")) rfl) F_Operator_entry (by decide)) (tab_nil)
  have tM_monic : ∀ c ff, (c, ff) ∈ ([("Operator", f_Operator_monic)] : List (Str × FF)) → HasM M c "monic" 12 1 ff := tab_cons (hasM_of G_Operator (c.bk 35 (b := (methK "Operator" "monic")) rfl) F_Operator_monic (by decide)) (tab_nil)
  have tB___sub___only_Operator : ∀ c ff, (c, ff) ∈ ([("Operator", f_Operator___sub__)] : List (Str × FF)) → HasB M c "__sub__" 12 ff := tab_cons (hasB_of G_Operator (c.bk 36 (b := (binK "Operator" "__sub__")) rfl) F_Operator___sub__ (by decide)) (tab_nil)
  have o__law_used_right : FnG M.P M.w M.K M.mg M.base (L2.CX M.P M.w) 17 (He.ga M.K "_law_used_right") d__law_used_right P__law_used_right (spD M.G 1 f__law_used_right) := fn_okG (M := M) (la := some (cdA M.K (He.ga M.K "_law_used_right"), cdT M.K (He.ga M.K "_law_used_right"), ("_law_used_right" : Str) ++ ".<locals>.")) D__law_used_right sc__law_used_right rfl (fun cc TT qq z => by cases z; exact ⟨rfl, rfl, laOk_of (M := M) (p := (fun K => He.ga K "_law_used_right", lamQ "_law_used_right")) (x := "_law_used_right") rfl rfl (List.mem_of_getElem? (i := 1) rfl) c0.t.code TB⟩) fun W => b__law_used_right M h__law_one_of h_commutator h_is_central h_each_made c_Operator tC_slopes c_Function tC_number tT___pow___only_Operator tO___call___only_Operator tM_led tM_entry m_repr tB___add___only_Operator hc_Operator tM_monic tB___sub___only_Operator tB___mul___only_Operator ns_InvalidOperation ns_InvalidFunction ns_InvalidOperator m_list c_InvalidOperation c_InvalidOperator c_InvalidFunction xf_InvalidNumber c_InvalidNumber st__law_fault mt__law_fault _ _ _ W
  have h__law_used_right : HasG M "_law_used_right" 17 P__law_used_right [] (spD M.G 1 f__law_used_right) := ⟨_, _, [], o__law_used_right, (He.glo_ok X G (c.fact 46 (f := .glo "_law_used_right") rfl)), D__law_used_right.kp, D__law_used_right.bindsN fun _ _ _ _ _ _ us hl => match us, hl with | [_], _ => rfl, .nil⟩
  have tP_degree : ∀ c ff, (c, ff) ∈ ([("Function", f_Function_degree), ("Operator", f_Operator_degree)] : List (Str × FF)) → HasP M c "degree" 1 ff := tab_cons (hasP_of G_Function (c.bk 38 (b := (propK "Function" "degree")) rfl) F_Function_degree (by decide)) (tab_cons (hasP_of G_Operator (c.bk 37 (b := (propK "Operator" "degree")) rfl) F_Operator_degree (by decide)) (tab_nil))
  have tE___eq___only_Operator : ∀ c ff, (c, ff) ∈ ([("Operator", f_Operator___eq__)] : List (Str × FF)) → HasE M c 3 ff := tab_cons (hasE_of G_Operator (c.bk 39 (b := (eqK "Operator")) rfl) F_Operator___eq__ (by decide)) (tab_nil)
  have tU___len___only_Operator : ∀ c ff, (c, ff) ∈ ([("Operator", f_Operator___len__)] : List (Str × FF)) → HasU M c "__len__" 1 ff := tab_cons (hasU_of G_Operator (c.bk 40 (b := (unK "Operator" "__len__")) rfl) F_Operator___len__ (by decide)) (tab_nil)
  have o_law : FnG M.P M.w M.K M.mg M.base (L2.CX M.P M.w) 18 (He.ga M.K "law") d_law P_law (spD M.G 1 f_law) := fn_okG (M := M) (la := none) D_law sc_law rfl (fun _ _ _ z => nomatch z) fun W => b_law M h__law_bag h__law_made_right h__law_used_right m_len m_min m_max m_range hc_Operator tP_degree tE___eq___only_Operator c_Operator tC_slopes tU___len___only_Operator W
  have h_law : HasG M "law" 18 P_law [] (spD M.G 1 f_law) := ⟨_, _, [], o_law, (He.glo_ok X G (c.fact 47 (f := .glo "law") rfl)), D_law.kp, D_law.bindsN fun _ _ _ _ _ _ us hl => match us, hl with | [_], _ => rfl, .nil⟩
  exact o_law
end Gn
open PySem PySem.W PySem.Calls PyProof.Rows
theorem PySem.Challenge.cw_slopewords_k25_errors_of_operators_holds : PySem.Challenge.rw_slopewords_k25_errors_of_operators.Holds := by
  w_on; o_law
  refine HandSHeadRun.head_any (r := OpenLaw.row PySem.Challenge.rw_slopewords_k25_errors_of_operators) (q := view (OpenLaw.row PySem.Challenge.rw_slopewords_k25_errors_of_operators).prog [78]) (H := Gn.hkk) (ob := Gn.obb) (M := 16000) (loose := Gn.loose) (d := HandSHeadRun.topDef (OpenLaw.row PySem.Challenge.rw_slopewords_k25_errors_of_operators).prog 78) (kwd := []) Gn.obb_eq
    (by kernel_rfl) (fun s => by kernel_rfl) Gn.runs (by kernel_rfl) (by kernel_rfl) (by kernel_rfl) (by rfl) (by first | assumption | decide +kernel) (by decide +kernel) ⟨rfl, rfl, rfl, rfl, rfl, by decide +kernel⟩ ?hw ?hc
  case hw => w_witness2
  case hc =>
    refine DS.walk_ofG (l := PySem.Challenge.rw_slopewords_k25_errors_of_operators) (n := 63) (k := 18) (x := "script") rfl (by decide) (by kernel_rfl) ⟨rfl, by decide, by decide⟩ ?F
    intro w mg fa h Y G hmg0
    obtain ⟨K, KX, c⟩ := Y
    have hmg : mg ("law" : PySem.Str) = some (.ref fa) := by
      have e : (HandSHeadRun.topDef (OpenLaw.row PySem.Challenge.rw_slopewords_k25_errors_of_operators).prog 78).name = ("law" : PySem.Str) := by kernel_rfl
      rw [← e]
      exact hmg0
    obtain ⟨fd, hb, hF⟩ := Gn.facts (P := (PySem.Challenge.rw_slopewords_k25_errors_of_operators).prog) (w := w) KX G hmg c (beq_self_eq_true _) (by decide +kernel)
    exact ⟨K, KX, DS.lawAt_of KX c hb (fun ns hl => Gn.law_pure ns hl) hF⟩
