import PyProof.Rows.All
import Wide.All
import OpenK.AllK
import Wide.FinOn
import KE.KStateDown
import HandS.ForMost
import HandS.Exc
import HandS.TryOnly
import HandS.ExcOwn
import HandS.WordsExc
import HandS.Flow
import HandS.More
import HandS.Conv
import HandS.IsInst
import HandS.EndBits
import HandS.Defaults
import HandS.Head0
import HandS.Head1
import HandS.Head2
import HandS.HeadEnd
import HandS.HeadHook1
import HandS.HeadHook2
import HandS.HeadHook4
import HandS.Lambda
import HandS.EndTab
import HandS.Rev
import KE.KDictList
import HandS.SetKeys
import HandS.Deep
import KE.SortKeyHeap
import KE.KLam
import Lean
import PySem.Challenge.RW_mostwise_k33_whole_sure_sets
set_option Elab.async false
set_option linter.all false
set_option maxRecDepth 100000
/-! The value layer: what a text does, told over data trees; own work over the hand layer. -/
namespace Vs
open PySem PySem.Spec L2

/-! ### data -/
inductive Dt where
  | non | bl (b : Bool) | int (i : Int) | str (s : Str)
  | lst (xs : List Dt) | tup (xs : List Dt)
  | dic (kvs : List (Key × Dt))
  | dit (kvs : List (List Key × Dt))
  | ins (C : Str) (fs : List (Str × Dt))
  | scr (xs : List Dt)

abbrev big : Nat := 1000000
abbrev bigS : Nat := 900000
theorem big_line : big ≤ sizeLine := by rw [sizeLine_eq]; decide

/-- a text that is no longer than this layer carries, of signs that there are -/
def goodB (s : Str) : Bool := decide (s.length ≤ bigS) && s.cps.toList.all fun c => decide (c < 0x110000)
theorem good_iff {s : Str} : goodB s = true ↔ s.length ≤ bigS ∧ ∀ c ∈ s.cps.toList, c < 0x110000 := by
  unfold goodB
  rw [Bool.and_eq_true_iff, decide_eq_true_iff, List.all_eq_true]
  constructor
  · rintro ⟨h1, h2⟩
    exact ⟨h1, fun c hc => of_decide_eq_true (h2 c hc)⟩
  · rintro ⟨h1, h2⟩
    exact ⟨h1, fun c hc => decide_eq_true (h2 c hc)⟩
theorem good_len {s : Str} (h : goodB s = true) : s.length ≤ bigS := (good_iff.mp h).1
theorem bigS_big : bigS ≤ big := by decide
theorem good_line {s : Str} (h : goodB s = true) : s.length ≤ sizeLine := Nat.le_trans (good_len h) (Nat.le_trans bigS_big big_line)
theorem good_one {c : Nat} (h : c < 0x110000) : goodB ⟨#[c]⟩ = true := good_iff.mpr ⟨by show 1 ≤ bigS; decide, fun d hd => by
  have : d = c := by simpa using hd
  rw [this]; exact h⟩
theorem good_sub {s t : Str} (h : goodB s = true) (hl : t.length ≤ s.length) (hc : ∀ c ∈ t.cps.toList, c ∈ s.cps.toList) : goodB t = true :=
  good_iff.mpr ⟨Nat.le_trans hl (good_len h), fun c z => (good_iff.mp h).2 c (hc c z)⟩
theorem good_app {s t : Str} (h : goodB s = true) (h' : goodB t = true) (hl : s.length + t.length ≤ bigS) : goodB (s ++ t) = true := by
  refine good_iff.mpr ⟨?_, fun c hc => ?_⟩
  · show (s.cps ++ t.cps).size ≤ bigS
    rw [Array.size_append]; exact hl
  · have e : (s ++ t).cps.toList = s.cps.toList ++ t.cps.toList := by
      show (s.cps ++ t.cps).toList = _
      exact Array.toList_append
    rw [e, List.mem_append] at hc
    rcases hc with z | z
    · exact (good_iff.mp h).2 c z
    · exact (good_iff.mp h').2 c z
theorem good_strOk {s : Str} (h : goodB s = true) : PyData.strOk s = true := by
  unfold PyData.strOk
  rw [Array.all_eq_true']
  intro c hc
  exact decide_eq_true ((good_iff.mp h).2 c (Array.mem_def.mp hc))

/-- a good key -/
def kOk : Key → Bool
  | .inl _ => true
  | .inr s => goodB s
mutual
inductive Rep (K : PySem.W.Frag) (F : Hp) : V → Dt → Prop
  | non : Rep K F .non .non
  | bl (b : Bool) : Rep K F (.bl b) (.bl b)
  | int (i : Int) : Rep K F (.int i) (.int i)
  | str (s : Str) : goodB s = true → Rep K F (.str s) (.str s)
  | lst {a : Addr} {vs : List V} {ds : List Dt} : F a = some (.lst vs) → vs.length ≤ big → RepL K F vs ds → Rep K F (.ref a) (.lst ds)
  | tup {a : Addr} {vs : List V} {ds : List Dt} : F a = some (.tup vs) → vs.length ≤ big → RepL K F vs ds → Rep K F (.ref a) (.tup ds)
  | dic {a : Addr} {vs : List (Key × V)} {ds : List (Key × Dt)} : F a = some (.dK vs) → vs.length ≤ big → RepK K F vs ds → (vs.map (·.1)).Nodup → Rep K F (.ref a) (.dic ds)
  | dit {a : Addr} {vs : List (List Key × V)} {ds : List (List Key × Dt)} : F a = some (.dT vs) → vs.length ≤ big → RepT K F vs ds → (vs.map (·.1)).Nodup → Rep K F (.ref a) (.dit ds)
  | ins {a dx : Addr} {C : Str} {vs : List (Str × V)} {fs : List (Str × Dt)} : F a = some (.ins (He.ga K C) dx vs) → RepF K F vs fs → Rep K F (.ref a) (.ins C fs)
  | scr {a : Addr} {vs : List V} {ds : List Dt} : SqL K F a vs → vs.length ≤ big → RepL K F vs ds → Rep K F (.ref a) (.scr ds)
inductive RepL (K : PySem.W.Frag) (F : Hp) : List V → List Dt → Prop
  | nil : RepL K F [] []
  | cons {v : V} {vs : List V} {d : Dt} {ds : List Dt} : Rep K F v d → RepL K F vs ds → RepL K F (v :: vs) (d :: ds)
inductive RepK (K : PySem.W.Frag) (F : Hp) : List (Key × V) → List (Key × Dt) → Prop
  | nil : RepK K F [] []
  | cons {k : Key} {v : V} {vs : List (Key × V)} {d : Dt} {ds : List (Key × Dt)} : kOk k = true → Rep K F v d → RepK K F vs ds → RepK K F ((k, v) :: vs) ((k, d) :: ds)
inductive RepT (K : PySem.W.Frag) (F : Hp) : List (List Key × V) → List (List Key × Dt) → Prop
  | nil : RepT K F [] []
  | cons {k : List Key} {v : V} {vs : List (List Key × V)} {d : Dt} {ds : List (List Key × Dt)} : Rep K F v d → RepT K F vs ds → RepT K F ((k, v) :: vs) ((k, d) :: ds)
inductive RepF (K : PySem.W.Frag) (F : Hp) : List (Str × V) → List (Str × Dt) → Prop
  | nil : RepF K F [] []
  | cons {k : Str} {v : V} {vs : List (Str × V)} {d : Dt} {ds : List (Str × Dt)} : Rep K F v d → RepF K F vs ds → RepF K F ((k, v) :: vs) ((k, d) :: ds)
end

/-! ### heaps -/
def Ex (H H' : Hp) : Prop := ∀ a o, H a = some o → H' a = some o
theorem Ex.refl (H : Hp) : Ex H H := fun _ _ h => h
theorem Ex.trans {H H1 H2 : Hp} (a : Ex H H1) (b : Ex H1 H2) : Ex H H2 := fun x o h => b x o (a x o h)
/-- the one lambda that there is: its maker's code object and table -/
abbrev lamD : Str × Option Str := ("sure_steps", none)
abbrev lamQ : Str := "sure_steps.<locals>.<lambda>"
/-- all but the tables of code objects -/
def nT : HO → Bool
  | .tbl _ => false
  | _ => true
/-- from heap to heap: all but O and the tables stands, the tables grow as they should -/
structure ExO (O : Addr → Prop) (H H' : Hp) : Prop where
  k : ∀ a o, ¬ O a → H a = some o → nT o = true → H' a = some o
  n : ∀ a, ¬ O a → H a ≠ none → H' a ≠ none
  t : ∀ a, LamX.TabS H a lamQ → LamX.TabS H' a lamQ
abbrev ExH (H H' : Hp) : Prop := ExO (fun _ => False) H H'
theorem ExO.refl {O : Addr → Prop} (H : Hp) : ExO O H H := ⟨fun _ _ _ h _ => h, fun _ _ h => h, fun _ h => h⟩
theorem ExO.imp {O O' : Addr → Prop} {H H' : Hp} (e : ExO O H H') (h : ∀ a, O a → O' a) : ExO O' H H' := ⟨fun a o n => e.k a o fun z => n (h a z), fun a n => e.n a fun z => n (h a z), e.t⟩
theorem ExO.of {H H' : Hp} (e : Ex H H') : ExH H H' := ⟨fun a o _ h _ => e a o h, fun a _ h => by
  cases q : H a with
  | none => exact absurd q h
  | some o => rw [e a o q]; simp, fun a h => h.ext e⟩
theorem ExO.h {H H' : Hp} (e : ExH H H') {a : Addr} {o : HO} (h : H a = some o) (n : nT o = true := by rfl) : H' a = some o := e.k a o (fun z => z) h n
theorem ExO.trans {H H1 H2 : Hp} (a : ExH H H1) (b : ExH H1 H2) : ExH H H2 := ⟨fun x o z h n => b.k x o z (a.k x o z h n) n, fun x z h => b.n x z (a.n x z h), fun x h => b.t x (a.t x h)⟩
/-- what is no table and no code object may change -/
def nTC : HO → Bool
  | .tbl _ => false
  | .ext _ => false
  | _ => true
theorem nT_of {o : HO} (h : nTC o = true) : nT o = true := by cases o <;> first | rfl | cases h
theorem tab_upd {H : Hp} {a p : Addr} {q : Str} {o u : HO} (h : LamX.TabS H a q) (hp : H p = some o) (hn : nTC o = true) : LamX.TabS (upd H p u) a q := by
  obtain ⟨ps, h1, h2, h3⟩ := h
  refine ⟨ps, ?_, h2, fun pos cv hc => ?_⟩
  · rw [upd_ne (fun z => by rw [z, hp] at h1; cases h1; cases hn)]; exact h1
  · obtain ⟨c, e1, e2⟩ := h3 pos cv hc
    refine ⟨c, e1, ?_⟩
    rw [upd_ne (fun z => by rw [z, hp] at e2; cases e2; cases hn)]; exact e2
theorem tab_new {H : Hp} {a p : Addr} {q : Str} {u : HO} (h : LamX.TabS H a q) (hp : H p = none) : LamX.TabS (upd H p u) a q :=
  h.ext fun b o e => by rw [upd_ne (fun z => by rw [z, hp] at e; cases e)]; exact e
theorem ExO.then {O : Addr → Prop} {H H1 H2 : Hp} (a : ExO O H H1) (b : ExH H1 H2) : ExO O H H2 := ⟨fun x o z h n => b.h (a.k x o z h n) n, fun x z h => b.n x (fun y => y) (a.n x z h), fun x h => b.t x (a.t x h)⟩
theorem ExO.comp {O O1 : Addr → Prop} {H H1 H2 : Hp} (u : ExH H H1) (l : ExO O1 H1 H2) (h : ∀ a, H a ≠ none → O1 a → O a) : ExO O H H2 :=
  ⟨fun a o n z m => l.k a o (fun y => n (h a (by rw [z]; simp) y)) (u.h z m) m, fun a n z => l.n a (fun y => n (h a z y)) (u.n a (fun y => y) z), fun a z => l.t a (u.t a z)⟩
/-- what changed is as it was again -/
theorem ExO.back {H H2 : Hp} {a : Addr} {o : HO} (e : ExO (fun b => b = a) H H2) (h : H a = some o) (h2 : H2 a = some o) : ExH H H2 :=
  ⟨fun x v _ z n => by
    by_cases q : x = a
    · subst q; rw [h] at z; cases z; exact h2
    · exact e.k x v q z n, fun x _ z => by
    by_cases q : x = a
    · subst q; rw [h2]; simp
    · exact e.n x q z, e.t⟩
/-- what changed was not there at first -/
theorem ExO.within {O : Addr → Prop} {H H1 H2 : Hp} (a : ExH H H1) (b : ExO O H1 H2) (h : ∀ x, O x → H x = none) : ExH H H2 :=
  ⟨fun x o _ z n => b.k x o (fun y => by rw [h x y] at z; cases z) (a.h z n) n, fun x _ z => b.n x (fun y => z (h x y)) (a.n x (fun y => y) z), fun x z => b.t x (a.t x z)⟩
theorem ExO.upd {O : Addr → Prop} {H H' : Hp} {p : Addr} {o u : HO} (e : ExO O H H') (hp : H' p = some o) (hn : nTC o = true) (ho : O p) : ExO O H (upd H' p u) := by
  refine ⟨fun x v z h n => ?_, fun x z h => ?_, fun x h => tab_upd (e.t x h) hp hn⟩
  · rw [upd_ne (fun y => z (by rw [y]; exact ho))]; exact e.k x v z h n
  · rw [upd_ne (fun y => z (by rw [y]; exact ho))]; exact e.n x z h
theorem Ex.new {H : Hp} {p : Addr} {o : HO} (h : H p = none) : Ex H (upd H p o) := fun a u e => by
  rw [upd_ne (ne_of_none e h)]
  exact e
theorem Ex.upd2 {H H' : Hp} {p : Addr} {o : HO} (e : Ex H H') (h : H p = none) : Ex H (upd H' p o) := fun a u ha => by
  rw [upd_ne (ne_of_none ha h)]
  exact e a u ha
theorem Ex.rd {H H' : Hp} {a : Addr} {u : HO} (e : Ex H H') (h : Rd H a u) : Rd H' a u := by
  rcases h with h | ⟨o, h⟩
  · exact Or.inl (e a _ h)
  · exact Or.inr ⟨o, e a _ h⟩
theorem Ex.sql {K : PySem.W.Frag} {H H' : Hp} {a : Addr} {xs : List V} (e : Ex H H') (h : SqL K H a xs) : SqL K H' a xs := by
  rcases h with h | h
  · exact Or.inl (e.rd h)
  · exact Or.inr h
theorem ExO.rd {H H' : Hp} {a : Addr} {u : HO} (e : ExH H H') (h : Rd H a u) (n : nT u = true := by rfl) : Rd H' a u := by
  rcases h with h | ⟨o, h⟩
  · exact Or.inl (e.h h n)
  · exact Or.inr ⟨o, e.h h⟩
theorem ExO.sql {K : PySem.W.Frag} {H H' : Hp} {a : Addr} {xs : List V} (e : ExH H H') (h : SqL K H a xs) : SqL K H' a xs := by
  rcases h with h | h
  · exact Or.inl (e.rd h)
  · exact Or.inr h
theorem ExO.sqt {K : PySem.W.Frag} {H H' : Hp} {a : Addr} {xs : List V} (e : ExH H H') (h : SqT K H a xs) : SqT K H' a xs := by
  rcases h with h | h
  · exact Or.inl (e.rd h)
  · exact Or.inr h
theorem ExO.free {H H' : Hp} (e : ExH H H') {l : Addr} (h : H' l = none) : H l = none := by
  cases q : H l with
  | none => rfl
  | some o => exact absurd h (e.n l (fun z => z) (by rw [q]; simp))

mutual
theorem Rep.mono {K : PySem.W.Frag} {F F' : Hp} (e : Ex F F') : ∀ {v : V} {d : Dt}, Rep K F v d → Rep K F' v d
  | _, _, .non => .non
  | _, _, .bl b => .bl b
  | _, _, .int i => .int i
  | _, _, .str s h => .str s h
  | _, _, .lst h l r => .lst (e _ _ h) l (RepL.mono e r)
  | _, _, .tup h l r => .tup (e _ _ h) l (RepL.mono e r)
  | _, _, .scr h l r => .scr (e.sql h) l (RepL.mono e r)
  | _, _, .dic h l r n => .dic (e _ _ h) l (RepK.mono e r) n
  | _, _, .dit h l r n => .dit (e _ _ h) l (RepT.mono e r) n
  | _, _, .ins h r => .ins (e _ _ h) (RepF.mono e r)
theorem RepL.mono {K : PySem.W.Frag} {F F' : Hp} (e : Ex F F') : ∀ {v : List V} {d : List Dt}, RepL K F v d → RepL K F' v d
  | _, _, .nil => .nil
  | _, _, .cons h r => .cons (Rep.mono e h) (RepL.mono e r)
theorem RepK.mono {K : PySem.W.Frag} {F F' : Hp} (e : Ex F F') : ∀ {v : List (Key × V)} {d : List (Key × Dt)}, RepK K F v d → RepK K F' v d
  | _, _, .nil => .nil
  | _, _, .cons o h r => .cons o (Rep.mono e h) (RepK.mono e r)
theorem RepT.mono {K : PySem.W.Frag} {F F' : Hp} (e : Ex F F') : ∀ {v : List (List Key × V)} {d : List (List Key × Dt)}, RepT K F v d → RepT K F' v d
  | _, _, .nil => .nil
  | _, _, .cons h r => .cons (Rep.mono e h) (RepT.mono e r)
theorem RepF.mono {K : PySem.W.Frag} {F F' : Hp} (e : Ex F F') : ∀ {v : List (Str × V)} {d : List (Str × Dt)}, RepF K F v d → RepF K F' v d
  | _, _, .nil => .nil
  | _, _, .cons h r => .cons (Rep.mono e h) (RepF.mono e r)
end

/-- what is frozen stands; a dict may be locked -/
def Sees (H : Hp) (a : Addr) (o : HO) : Prop := H a = some o ∨ (((∃ kvs, o = .dK kvs) ∨ ∃ kvs, o = .dT kvs) ∧ ∃ ob, H a = some (.frz ob o))
def Sub (F H : Hp) : Prop := ∀ a o, F a = some o → Sees H a o
theorem Sub.rd {F H : Hp} (s : Sub F H) {a : Addr} {o : HO} (h : F a = some o) : Rd H a o := by
  rcases s a o h with q | ⟨_, ob, q⟩
  · exact .inl q
  · exact .inr ⟨ob, q⟩
theorem Sub.at {F H : Hp} (s : Sub F H) {a : Addr} {o : HO} (h : F a = some o) (n1 : ∀ kvs, o ≠ .dK kvs) (n2 : ∀ kvs, o ≠ .dT kvs) : H a = some o := by
  rcases s a o h with q | ⟨⟨k, e⟩ | ⟨k, e⟩, _⟩
  · exact q
  · exact absurd e (n1 k)
  · exact absurd e (n2 k)
theorem Sub.sql {K : PySem.W.Frag} {F H : Hp} (s : Sub F H) {a : Addr} {xs : List V} (h : SqL K F a xs) : SqL K H a xs := by
  rcases h with (h | ⟨o, h⟩) | h
  · exact .inl (.inl (s.at h (by intro k z; cases z) (by intro k z; cases z)))
  · exact .inl (.inr ⟨o, s.at h (by intro k z; cases z) (by intro k z; cases z)⟩)
  · exact .inr h
theorem Sub.sqt {K : PySem.W.Frag} {F H : Hp} (s : Sub F H) {a : Addr} {xs : List V} (h : SqT K F a xs) : SqT K H a xs := by
  rcases h with (h | ⟨o, h⟩) | h
  · exact .inl (.inl (s.at h (by intro k z; cases z) (by intro k z; cases z)))
  · exact .inl (.inr ⟨o, s.at h (by intro k z; cases z) (by intro k z; cases z)⟩)
  · exact .inr h
theorem Sub.lst {F H : Hp} (s : Sub F H) {a : Addr} {vs : List V} (h : F a = some (.lst vs)) : H a = some (.lst vs) := s.at h (by intro k z; cases z) (by intro k z; cases z)
theorem Sub.tup {F H : Hp} (s : Sub F H) {a : Addr} {vs : List V} (h : F a = some (.tup vs)) : H a = some (.tup vs) := s.at h (by intro k z; cases z) (by intro k z; cases z)
theorem Sub.scr {F H : Hp} (s : Sub F H) {a : Addr} {o : Obj} {vs : List V} (h : F a = some (.frz o (.lst vs))) : H a = some (.frz o (.lst vs)) := s.at h (by intro k z; cases z) (by intro k z; cases z)
theorem Sub.ins {F H : Hp} (s : Sub F H) {a C dx : Addr} {fs : List (Str × V)} (h : F a = some (.ins C dx fs)) : H a = some (.ins C dx fs) :=
  s.at h (by intro k z; cases z) (by intro k z; cases z)
theorem Sub.none {F H : Hp} (s : Sub F H) {a : Addr} (h : H a = none) : F a = none := by
  cases q : F a with
  | none => rfl
  | some o =>
    rcases s a o q with z | ⟨_, ob, z⟩
    · rw [h] at z; cases z
    · rw [h] at z; cases z

/-- a pure step: all stands, new frozen things are new -/
structure Up (F H F' H' : Hp) : Prop where
  fr : Ex F F'
  hp : ExH H H'
  nw : ∀ a, F a = none → H a ≠ none → F' a = none
  sb : Sub F' H'
theorem Up.refl {F H : Hp} (s : Sub F H) : Up F H F H := ⟨Ex.refl F, ExO.refl H, fun _ h _ => h, s⟩
theorem Up.trans {F H F1 H1 F2 H2 : Hp} (a : Up F H F1 H1) (b : Up F1 H1 F2 H2) : Up F H F2 H2 :=
  ⟨a.fr.trans b.fr, a.hp.trans b.hp, fun x h h' => b.nw x (a.nw x h h') (a.hp.n x (fun z => z) h'), b.sb⟩
/-- a new frozen object -/
theorem Up.lay {F H : Hp} {p : Addr} {o : HO} (s : Sub F H) (hp : H p = none) : Up F H (upd F p o) (upd H p o) := by
  have hF := s.none hp
  refine ⟨Ex.new hF, ExO.of (Ex.new hp), fun a h h' => ?_, fun a u q => ?_⟩
  · have hne : a ≠ p := fun z => by subst z; exact h' hp
    rw [upd_ne hne]; exact h
  · by_cases e : a = p
    · subst e
      rw [upd_same] at q; cases q
      exact .inl upd_same
    · rw [upd_ne e] at q
      rcases s a u q with z | ⟨k, ob, z⟩
      · exact .inl (by rw [upd_ne e]; exact z)
      · exact .inr ⟨k, ob, by rw [upd_ne e]; exact z⟩
/-- a new object, not frozen -/
theorem Up.layH {F H : Hp} {p : Addr} {o : HO} (s : Sub F H) (hp : H p = none) : Up F H F (upd H p o) := by
  refine ⟨Ex.refl F, ExO.of (Ex.new hp), fun a h h' => h, fun a u q => ?_⟩
  have hne : a ≠ p := fun z => by subst z; rw [s.none hp] at q; cases q
  rcases s a u q with z | ⟨k, ob, z⟩
  · exact .inl (by rw [upd_ne hne]; exact z)
  · exact .inr ⟨k, ob, by rw [upd_ne hne]; exact z⟩

/-! ### cells: what a name holds: frozen data, an own list, an own dict, an own dict of cells, an own object of cells, a hole -/
inductive Cell where
  | fz (d : Dt)
  | ol (ds : List Dt)
  | od (kvs : List (Key × Dt))
  | odt (kvs : List (List Key × Dt))
  | oc (kvs : List (Key × Cell))
  | ob (C : Str) (fs : List (Str × Cell))
  | hl (v : V)
  | fl (vs : List V) (ds : List Dt)

mutual
inductive RepC (K : PySem.W.Frag) (F H : Hp) : List Addr → V → Cell → Prop
  | fz {v : V} {d : Dt} : Rep K F v d → RepC K F H [] v (.fz d)
  | ol {p : Addr} {vs : List V} {ds : List Dt} : H p = some (.lst vs) → vs.length ≤ big → RepL K F vs ds → RepC K F H [p] (.ref p) (.ol ds)
  | od {p : Addr} {vs : List (Key × V)} {kvs : List (Key × Dt)} : H p = some (.dK vs) → vs.length ≤ big → RepK K F vs kvs → (vs.map (·.1)).Nodup → RepC K F H [p] (.ref p) (.od kvs)
  | odt {p : Addr} {vs : List (List Key × V)} {kvs : List (List Key × Dt)} : H p = some (.dT vs) → vs.length ≤ big → RepT K F vs kvs → (vs.map (·.1)).Nodup → RepC K F H [p] (.ref p) (.odt kvs)
  | oc {p : Addr} {fp : List Addr} {vs : List (Key × V)} {kvs : List (Key × Cell)} : H p = some (.dK vs) → vs.length ≤ big → RepCK K F H fp vs kvs → p ∉ fp → (vs.map (·.1)).Nodup → RepC K F H (p :: fp) (.ref p) (.oc kvs)
  | ob {p dx : Addr} {fp : List Addr} {C : Str} {vs : List (Str × V)} {fs : List (Str × Cell)} : H p = some (.ins (He.ga K C) dx vs) → RepCF K F H fp vs fs → p ∉ fp → RepC K F H (p :: fp) (.ref p) (.ob C fs)
  | hl {v : V} : RepC K F H [] v (.hl v)
  | fl {a : Addr} {vs : List V} {ds : List Dt} : F a = some (.lst vs) → vs.length ≤ big → RepL K F vs ds → RepC K F H [] (.ref a) (.fl vs ds)
inductive RepCK (K : PySem.W.Frag) (F H : Hp) : List Addr → List (Key × V) → List (Key × Cell) → Prop
  | nil : RepCK K F H [] [] []
  | cons {k : Key} {v : V} {c : Cell} {fp fq : List Addr} {vs : List (Key × V)} {kvs : List (Key × Cell)} : kOk k = true → RepC K F H fp v c → RepCK K F H fq vs kvs → (∀ a ∈ fp, a ∉ fq) → RepCK K F H (fp ++ fq) ((k, v) :: vs) ((k, c) :: kvs)
inductive RepCF (K : PySem.W.Frag) (F H : Hp) : List Addr → List (Str × V) → List (Str × Cell) → Prop
  | nil : RepCF K F H [] [] []
  | cons {k : Str} {v : V} {c : Cell} {fp fq : List Addr} {vs : List (Str × V)} {kvs : List (Str × Cell)} : RepC K F H fp v c → RepCF K F H fq vs kvs → (∀ a ∈ fp, a ∉ fq) → RepCF K F H (fp ++ fq) ((k, v) :: vs) ((k, c) :: kvs)
end
mutual
theorem RepC.mono {K : PySem.W.Frag} {F H F' H' : Hp} (e : Ex F F') : ∀ {fp : List Addr} {v : V} {c : Cell}, (∀ a ∈ fp, ∀ o, H a = some o → nT o = true → H' a = some o) → RepC K F H fp v c → RepC K F' H' fp v c
  | _, _, _, _, .fz r => .fz (r.mono e)
  | _, _, _, k, .ol h l r => .ol (k _ (by simp) _ h rfl) l (r.mono e)
  | _, _, _, k, .od h l r n => .od (k _ (by simp) _ h rfl) l (r.mono e) n
  | _, _, _, k, .odt h l r n => .odt (k _ (by simp) _ h rfl) l (r.mono e) n
  | _, _, _, k, .oc h l r n d => .oc (k _ (by simp) _ h rfl) l (RepCK.mono e (fun a ha => k a (List.mem_cons_of_mem _ ha)) r) n d
  | _, _, _, k, .ob h r n => .ob (k _ (by simp) _ h rfl) (RepCF.mono e (fun a ha => k a (List.mem_cons_of_mem _ ha)) r) n
  | _, _, _, _, .hl => .hl
  | _, _, _, _, .fl h l r => .fl (e _ _ h) l (r.mono e)
theorem RepCK.mono {K : PySem.W.Frag} {F H F' H' : Hp} (e : Ex F F') : ∀ {fp : List Addr} {v : List (Key × V)} {c : List (Key × Cell)}, (∀ a ∈ fp, ∀ o, H a = some o → nT o = true → H' a = some o) → RepCK K F H fp v c → RepCK K F' H' fp v c
  | _, _, _, _, .nil => .nil
  | _, _, _, k, .cons o r rs d => .cons o (RepC.mono e (fun a ha => k a (List.mem_append_left _ ha)) r) (RepCK.mono e (fun a ha => k a (List.mem_append_right _ ha)) rs) d
theorem RepCF.mono {K : PySem.W.Frag} {F H F' H' : Hp} (e : Ex F F') : ∀ {fp : List Addr} {v : List (Str × V)} {c : List (Str × Cell)}, (∀ a ∈ fp, ∀ o, H a = some o → nT o = true → H' a = some o) → RepCF K F H fp v c → RepCF K F' H' fp v c
  | _, _, _, _, .nil => .nil
  | _, _, _, k, .cons r rs d => .cons (RepC.mono e (fun a ha => k a (List.mem_append_left _ ha)) r) (RepCF.mono e (fun a ha => k a (List.mem_append_right _ ha)) rs) d
end
/-- what is owned stands -/
theorem RepC.there {K : PySem.W.Frag} {F H : Hp} {fp : List Addr} {v : V} {d : Dt} (r : RepC K F H fp v (.fz d)) : fp = [] ∧ Rep K F v d := by cases r with | fz r => exact ⟨rfl, r⟩
theorem RepC.ol_inv {K : PySem.W.Frag} {F H : Hp} {fp : List Addr} {v : V} {ds : List Dt} (r : RepC K F H fp v (.ol ds)) : ∃ p vs, v = .ref p ∧ fp = [p] ∧ H p = some (.lst vs) ∧ vs.length ≤ big ∧ RepL K F vs ds := by
  cases r with | ol h l r => exact ⟨_, _, rfl, rfl, h, l, r⟩
theorem RepC.od_inv {K : PySem.W.Frag} {F H : Hp} {fp : List Addr} {v : V} {ds : List (Key × Dt)} (r : RepC K F H fp v (.od ds)) : ∃ p vs, v = .ref p ∧ fp = [p] ∧ H p = some (.dK vs) ∧ vs.length ≤ big ∧ RepK K F vs ds ∧ (vs.map (·.1)).Nodup := by
  cases r with | od h l r n => exact ⟨_, _, rfl, rfl, h, l, r, n⟩
theorem RepC.odt_inv {K : PySem.W.Frag} {F H : Hp} {fp : List Addr} {v : V} {ds : List (List Key × Dt)} (r : RepC K F H fp v (.odt ds)) : ∃ p vs, v = .ref p ∧ fp = [p] ∧ H p = some (.dT vs) ∧ vs.length ≤ big ∧ RepT K F vs ds ∧ (vs.map (·.1)).Nodup := by
  cases r with | odt h l r n => exact ⟨_, _, rfl, rfl, h, l, r, n⟩
theorem RepC.oc_inv {K : PySem.W.Frag} {F H : Hp} {fp : List Addr} {v : V} {ds : List (Key × Cell)} (r : RepC K F H fp v (.oc ds)) : ∃ p fq vs, v = .ref p ∧ fp = p :: fq ∧ H p = some (.dK vs) ∧ vs.length ≤ big ∧ RepCK K F H fq vs ds ∧ p ∉ fq ∧ (vs.map (·.1)).Nodup := by
  cases r with | oc h l r n d => exact ⟨_, _, _, rfl, rfl, h, l, r, n, d⟩
theorem RepC.ob_inv {K : PySem.W.Frag} {F H : Hp} {fp : List Addr} {v : V} {C : Str} {fs : List (Str × Cell)} (r : RepC K F H fp v (.ob C fs)) : ∃ p dx fq vs, v = .ref p ∧ fp = p :: fq ∧ H p = some (.ins (He.ga K C) dx vs) ∧ RepCF K F H fq vs fs ∧ p ∉ fq := by
  cases r with | ob h r n => exact ⟨_, _, _, _, rfl, rfl, h, r, n⟩
theorem RepC.fl_inv {K : PySem.W.Frag} {F H : Hp} {fp : List Addr} {v : V} {vs : List V} {ds : List Dt} (r : RepC K F H fp v (.fl vs ds)) : ∃ a, v = .ref a ∧ fp = [] ∧ F a = some (.lst vs) ∧ vs.length ≤ big ∧ RepL K F vs ds := by
  cases r with | fl h l r => exact ⟨_, rfl, rfl, h, l, r⟩
theorem RepC.here {K : PySem.W.Frag} {F H : Hp} {fp : List Addr} {p : Addr} {c : Cell} (r : RepC K F H fp (.ref p) c) (h : fp ≠ []) : ∃ o, H p = some o ∧ nTC o = true := by
  generalize hv : V.ref p = v at r
  cases r with
  | fz r => exact absurd rfl h
  | ol a l r => cases hv; exact ⟨_, a, rfl⟩
  | od a l r n => cases hv; exact ⟨_, a, rfl⟩
  | odt a l r n => cases hv; exact ⟨_, a, rfl⟩
  | oc a l r n d => cases hv; exact ⟨_, a, rfl⟩
  | ob a r n => cases hv; exact ⟨_, a, rfl⟩
  | hl => exact absurd rfl h
  | fl a l r => exact absurd rfl h
mutual
theorem RepC.all {K : PySem.W.Frag} {F H : Hp} : ∀ {fp : List Addr} {v : V} {c : Cell}, RepC K F H fp v c → ∀ a ∈ fp, ∃ o, H a = some o ∧ nTC o = true
  | _, _, _, .fz _, a, h => nomatch h
  | _, _, _, .ol h _ _, a, ha => by obtain rfl := List.mem_singleton.mp ha; exact ⟨_, h, rfl⟩
  | _, _, _, .od h _ _ _, a, ha => by obtain rfl := List.mem_singleton.mp ha; exact ⟨_, h, rfl⟩
  | _, _, _, .odt h _ _ _, a, ha => by obtain rfl := List.mem_singleton.mp ha; exact ⟨_, h, rfl⟩
  | _, _, _, .oc h _ r _ _, a, ha => by
    rcases List.mem_cons.mp ha with rfl | ha
    · exact ⟨_, h, rfl⟩
    · exact RepCK.all r a ha
  | _, _, _, .ob h r _, a, ha => by
    rcases List.mem_cons.mp ha with rfl | ha
    · exact ⟨_, h, rfl⟩
    · exact RepCF.all r a ha
  | _, _, _, .hl, a, h => nomatch h
  | _, _, _, .fl _ _ _, a, h => nomatch h
theorem RepCK.all {K : PySem.W.Frag} {F H : Hp} : ∀ {fp : List Addr} {v : List (Key × V)} {c : List (Key × Cell)}, RepCK K F H fp v c → ∀ a ∈ fp, ∃ o, H a = some o ∧ nTC o = true
  | _, _, _, .nil, a, h => nomatch h
  | _, _, _, .cons _ r rs _, a, h => (List.mem_append.mp h).elim (RepC.all r a) (RepCK.all rs a)
theorem RepCF.all {K : PySem.W.Frag} {F H : Hp} : ∀ {fp : List Addr} {v : List (Str × V)} {c : List (Str × Cell)}, RepCF K F H fp v c → ∀ a ∈ fp, ∃ o, H a = some o ∧ nTC o = true
  | _, _, _, .nil, a, h => nomatch h
  | _, _, _, .cons r rs _, a, h => (List.mem_append.mp h).elim (RepC.all r a) (RepCF.all rs a)
end
theorem RepC.hl_inv {K : PySem.W.Frag} {F H : Hp} {fp : List Addr} {v w : V} (r : RepC K F H fp v (.hl w)) : fp = [] ∧ v = w := by
  cases r with | hl => exact ⟨rfl, rfl⟩

abbrev Env := List (Option Cell)
def lamB (K : PySem.W.Frag) : Bool := match K.lookup (He.fAd K lamD) with
  | some ⟨_, _, .func _, _⟩ => true
  | _ => false
def TabAt (K : PySem.W.Frag) (P : Addr) : Prop := lamB K = true ∧ P = (He.cT K lamD).2
def Tb (K : PySem.W.Frag) (F H : Hp) : Prop := ∀ P, TabAt K P → F P = none ∧ LamX.TabS H P lamQ
theorem tab_there {H : Hp} {P : Addr} {q : Str} (t : LamX.TabS H P q) : H P ≠ none := by
  obtain ⟨ps, h, _⟩ := t
  rw [h]; simp
theorem tab_no {H : Hp} {P : Addr} {q : Str} {o : HO} (t : LamX.TabS H P q) (h : H P = some o) (n : nTC o = true) : False := by
  obtain ⟨ps, h', _⟩ := t
  rw [h'] at h; cases h; cases n
theorem tab_out {H : Hp} {fp : List Addr} {P : Addr} {q : Str} (t : LamX.TabS H P q) (h : ∀ a ∈ fp, ∃ o, H a = some o ∧ nTC o = true) : P ∉ fp := fun z => by
  obtain ⟨o, a, b⟩ := h P z
  exact tab_no t a b
theorem Tb.up {K : PySem.W.Frag} {F H F' H' : Hp} (t : Tb K F H) (u : Up F H F' H') : Tb K F' H' := fun P h => ⟨u.nw P (t P h).1 (tab_there (t P h).2), u.hp.t P (t P h).2⟩
/-- the names' cells; what is owned is apart -/
structure EnvOk (K : PySem.W.Frag) (F H : Hp) (σ : St) (G : Env) (fps : Nat → List Addr) : Prop where
  sub : Sub F H
  len : σ.length = G.length
  ent : ∀ (i : Nat) c, G[i]? = some (some c) → ∃ v, σ[i]? = some (some v) ∧ RepC K F H (fps i) v c
  own : ∀ i a, a ∈ fps i → F a = none ∧ H a ≠ none
  dis : ∀ i j a, a ∈ fps i → a ∈ fps j → i = j
  tab : Tb K F H
theorem EnvOk.up {K : PySem.W.Frag} {F H F' H' : Hp} {σ : St} {G : Env} {fps : Nat → List Addr} (e : EnvOk K F H σ G fps) (u : Up F H F' H') : EnvOk K F' H' σ G fps := by
  refine ⟨u.sb, e.len, fun i c h => ?_, fun i a h => ?_, e.dis, e.tab.up u⟩
  · obtain ⟨v, h1, h2⟩ := e.ent i c h
    exact ⟨v, h1, RepC.mono u.fr (fun a _ o q n => u.hp.h q n) h2⟩
  · obtain ⟨h1, h2⟩ := e.own i a h
    exact ⟨u.nw a h1 h2, u.hp.n a (fun z => z) h2⟩
def Owns (fps : Nat → List Addr) (a : Addr) : Prop := ∃ i, a ∈ fps i

/-- a step that may change what is owned -/
structure Le (O : Addr → Prop) (F H F' H' : Hp) (O' : Addr → Prop) : Prop where
  fr : Ex F F'
  hp : ExO O H H'
  nw : ∀ a, ¬ O a → F a = none → H a ≠ none → F' a = none
  ow : ∀ a, O' a → O a ∨ H a = none
theorem Le.trans {O O1 O2 : Addr → Prop} {F H F1 H1 F2 H2 : Hp} (a : Le O F H F1 H1 O1) (b : Le O1 F1 H1 F2 H2 O2) : Le O F H F2 H2 O2 := by
  have no : ∀ x, ¬ O x → H x ≠ none → ¬ O1 x := fun x h h' z => by
    rcases a.ow x z with q | q
    · exact h q
    · exact h' q
  refine ⟨a.fr.trans b.fr, ⟨fun x o h q n => b.hp.k x o (no x h (by rw [q]; simp)) (a.hp.k x o h q n) n, fun x h q => b.hp.n x (no x h q) (a.hp.n x h q), fun x h => b.hp.t x (a.hp.t x h)⟩, fun x h q q' => ?_, fun x h => ?_⟩
  · exact b.nw x (no x h q') (a.nw x h q q') (a.hp.n x h q')
  · by_cases hO : O x
    · exact .inl hO
    · rcases b.ow x h with q | q
      · exact a.ow x q
      · refine .inr ?_
        cases z : H x with
        | none => rfl
        | some o => exact absurd q (a.hp.n x hO (by rw [z]; simp))
theorem Up.le {F H F' H' : Hp} {O : Addr → Prop} (u : Up F H F' H') : Le O F H F' H' O :=
  ⟨u.fr, u.hp.imp fun _ z => z.elim, fun a _ h h' => u.nw a h h', fun _ h => .inl h⟩
theorem Le.refl {F H : Hp} {O : Addr → Prop} : Le O F H F H O := ⟨Ex.refl F, ExO.refl H, fun _ _ h _ => h, fun _ h => .inl h⟩

/-! ### the weakest readings, over a family of contexts -/
section
variable {I : Type}
def wpE (X : I → Cx) (e : Expr) : TE := fun σ H Q => ∃ t, (∀ i, PE (X i) e t) ∧ t σ H Q
def wpT (X : I → Cx) (e : Expr) : TT := fun σ H Q => ∃ t, (∀ i, PT (X i) e t) ∧ t σ H Q
def wpW (X : I → Cx) (e : Expr) : TT := fun σ H Q => ∃ t, (∀ i, PW (X i) e t) ∧ t σ H Q
def wpA (X : I → Cx) (es : List Expr) : TA := fun σ H Q => ∃ t, (∀ i, PA (X i) es t) ∧ t σ H Q
theorem pe_wp {X : I → Cx} {e : Expr} (i : I) : PE (X i) e (wpE X e) := ⟨fun pins s σ H Q J ⟨_, h, q⟩ => (h i).run pins s σ H Q J q⟩
theorem pt_wp {X : I → Cx} {e : Expr} (i : I) : PT (X i) e (wpT X e) := ⟨fun pins s σ H Q J ⟨_, h, q⟩ => (h i).run pins s σ H Q J q⟩
theorem pw_wp {X : I → Cx} {e : Expr} (i : I) : PW (X i) e (wpW X e) := ⟨fun wh pins s σ H Q J ⟨_, h, q⟩ => (h i).run wh pins s σ H Q J q⟩
theorem pa_wp {X : I → Cx} {es : List Expr} (i : I) : PA (X i) es (wpA X es) := ⟨fun pos pins s σ H Q J ⟨_, h, q⟩ => (h i).run pos pins s σ H Q J q⟩
end
def wpS (X : Cx) (st : Stmt) : TS := fun D σ H => ∃ t, PS X st t ∧ t D σ H
def wpSs (X : Cx) (ss : List Stmt) : TS := fun D σ H => ∃ t, PSs X ss t ∧ t D σ H
theorem ps_wp {X : Cx} {st : Stmt} : PS X st (wpS X st) := ⟨fun pins s σ H D J ⟨_, h, q⟩ => h.run pins s σ H D J q⟩
theorem pss_wp {X : Cx} {ss : List Stmt} : PSs X ss (wpSs X ss) := ⟨fun pins s σ H D J ⟨_, h, q⟩ => h.run pins s σ H D J q⟩

/-! ### judgements of expressions -/
section
variable {I : Type}
/-- e gives the frozen data d -/
def EX (X : I → Cx) (K : PySem.W.Frag) (G : Env) (e : Expr) (d : Dt) : Prop :=
  ∀ F H σ fps (Q : VK), EnvOk K F H σ G fps → (∀ F' H' v, Up F H F' H' → Rep K F' v d → Q v H') → wpE X e σ H Q
/-- e gives a new cell -/
def EN (X : I → Cx) (K : PySem.W.Frag) (G : Env) (e : Expr) (c : Cell) : Prop :=
  ∀ F H σ fps (Q : VK), EnvOk K F H σ G fps → (∀ F' H' v fp, Up F H F' H' → RepC K F' H' fp v c → (∀ a ∈ fp, H a = none ∧ F' a = none ∧ H' a ≠ none) → Q v H') → wpE X e σ H Q
/-- e is a test's answer -/
def EB (X : I → Cx) (K : PySem.W.Frag) (G : Env) (e : Expr) (b : Bool) : Prop :=
  ∀ F H σ fps (Q : Bool → Hp → Prop), EnvOk K F H σ G fps → (∀ F' H', Up F H F' H' → Q b H') → wpT X e σ H Q
def EBW (X : I → Cx) (K : PySem.W.Frag) (G : Env) (e : Expr) (b : Bool) : Prop :=
  ∀ F H σ fps (Q : Bool → Hp → Prop), EnvOk K F H σ G fps → (∀ F' H', Up F H F' H' → Q b H') → wpW X e σ H Q
/-- arguments, from the left -/
def EA (X : I → Cx) (K : PySem.W.Frag) (G : Env) (es : List Expr) (ds : List Dt) : Prop :=
  ∀ F H σ fps (Q : List V → Hp → Prop), EnvOk K F H σ G fps → (∀ F' H' vs, Up F H F' H' → RepL K F' vs ds → Q vs H') → wpA X es σ H Q

variable {X : I → Cx} {K : PySem.W.Frag} {G : Env}
theorem ex_var {i : Nat} {x : Str} {pos : Pos} {d : Dt} (hg : G[i]? = some (some (.fz d))) (hN : ∀ j, (X j).N[i]? = some x) (hv : ∀ j, Vis (X j).env.scope x)
    (hd : (x == ("__debug__" : Str)) = false := by decide) (hcd : (x == ("__classdict__" : Str)) = false := by decide) : EX X K G (.Name x pos) d := fun F H σ fps Q e q => by
  obtain ⟨v, h1, h2⟩ := e.ent i _ hg
  exact ⟨tVar i, fun j => pe_var (hN j) (hv j) hd hcd, v, h1, q F H v (Up.refl e.sub) h2.there.2⟩
theorem ex_int {i : Int} {j pos} : EX X K G (.Constant (.int i) j pos) (.int i) := fun F H σ fps Q e q => ⟨_, fun _ => pe_int, q F H _ (Up.refl e.sub) (.int i)⟩
theorem ex_bl {b : Bool} {j pos} : EX X K G (.Constant (.bool b) j pos) (.bl b) := fun F H σ fps Q e q => ⟨_, fun _ => pe_bl, q F H _ (Up.refl e.sub) (.bl b)⟩
theorem ex_non {j pos} : EX X K G (.Constant .none j pos) .non := fun F H σ fps Q e q => ⟨_, fun _ => pe_non, q F H _ (Up.refl e.sub) .non⟩
theorem ex_str {s : Str} {j pos} (h : goodB s = true := by decide +kernel) : EX X K G (.Constant (.str s) j pos) (.str s) := fun F H σ fps Q e q => ⟨_, fun _ => pe_str, q F H _ (Up.refl e.sub) (.str s h)⟩
theorem ea_nil : EA X K G [] [] := fun F H σ fps Q e q => ⟨_, fun _ => pa_nil, q F H [] (Up.refl e.sub) .nil⟩
end
end Vs

/-! Places within cells: taking a cell out, giving it back, freezing. -/
namespace Vs
open PySem PySem.Spec L2

/-! ### places -/
mutual
def Cell.at : Cell → List Nat → Option Cell
  | c, [] => some c
  | .ob _ fs, i :: π => atF fs i π
  | .oc kvs, i :: π => atK kvs i π
  | _, _ :: _ => none
def atF : List (Str × Cell) → Nat → List Nat → Option Cell
  | [], _, _ => none
  | (_, c) :: _, 0, π => c.at π
  | _ :: fs, i + 1, π => atF fs i π
def atK : List (Key × Cell) → Nat → List Nat → Option Cell
  | [], _, _ => none
  | (_, c) :: _, 0, π => c.at π
  | _ :: fs, i + 1, π => atK fs i π
end
mutual
def Cell.upd : Cell → List Nat → Cell → Cell
  | _, [], x => x
  | .ob C fs, i :: π, x => .ob C (updF fs i π x)
  | .oc kvs, i :: π, x => .oc (updK kvs i π x)
  | c, _ :: _, _ => c
def updF : List (Str × Cell) → Nat → List Nat → Cell → List (Str × Cell)
  | [], _, _, _ => []
  | (k, c) :: fs, 0, π, x => (k, c.upd π x) :: fs
  | z :: fs, i + 1, π, x => z :: updF fs i π x
def updK : List (Key × Cell) → Nat → List Nat → Cell → List (Key × Cell)
  | [], _, _, _ => []
  | (k, c) :: fs, 0, π, x => (k, c.upd π x) :: fs
  | z :: fs, i + 1, π, x => z :: updK fs i π x
end
mutual
theorem Cell.at_upd (x : Cell) : ∀ (c : Cell) (π : List Nat), (c.at π).isSome = true → (c.upd π x).at π = some x
  | c, [], _ => by cases c <;> simp [Cell.at, Cell.upd]
  | .ob _ fs, i :: π, h => by
    simp only [Cell.at, Cell.upd] at h ⊢
    exact atF_upd x fs i π h
  | .oc fs, i :: π, h => by
    simp only [Cell.at, Cell.upd] at h ⊢
    exact atK_upd x fs i π h
  | .fz _, _ :: _, h => by simp [Cell.at] at h
  | .ol _, _ :: _, h => by simp [Cell.at] at h
  | .od _, _ :: _, h => by simp [Cell.at] at h
  | .odt _, _ :: _, h => by simp [Cell.at] at h
  | .hl _, _ :: _, h => by simp [Cell.at] at h
  | .fl _ _, _ :: _, h => by simp [Cell.at] at h
theorem atF_upd (x : Cell) : ∀ (fs : List (Str × Cell)) (i : Nat) (π : List Nat), (atF fs i π).isSome = true → atF (updF fs i π x) i π = some x
  | [], _, _, h => by simp [atF] at h
  | (_, c) :: _, 0, π, h => by
    simp only [atF, updF] at h ⊢
    exact Cell.at_upd x c π h
  | _ :: fs, i + 1, π, h => by
    simp only [atF, updF] at h ⊢
    exact atF_upd x fs i π h
theorem atK_upd (x : Cell) : ∀ (fs : List (Key × Cell)) (i : Nat) (π : List Nat), (atK fs i π).isSome = true → atK (updK fs i π x) i π = some x
  | [], _, _, h => by simp [atK] at h
  | (_, c) :: _, 0, π, h => by
    simp only [atK, updK] at h ⊢
    exact Cell.at_upd x c π h
  | _ :: fs, i + 1, π, h => by
    simp only [atK, updK] at h ⊢
    exact atK_upd x fs i π h
end
mutual
theorem Cell.upd_upd (x y : Cell) : ∀ (c : Cell) (π : List Nat), (c.upd π x).upd π y = c.upd π y
  | c, [] => by cases c <;> simp [Cell.upd]
  | .ob _ fs, i :: π => by simp only [Cell.upd]; rw [updF_upd x y fs i π]
  | .oc fs, i :: π => by simp only [Cell.upd]; rw [updK_upd x y fs i π]
  | .fz _, _ :: _ => by simp [Cell.upd]
  | .ol _, _ :: _ => by simp [Cell.upd]
  | .od _, _ :: _ => by simp [Cell.upd]
  | .odt _, _ :: _ => by simp [Cell.upd]
  | .hl _, _ :: _ => by simp [Cell.upd]
  | .fl _ _, _ :: _ => by simp [Cell.upd]
theorem updF_upd (x y : Cell) : ∀ (fs : List (Str × Cell)) (i : Nat) (π : List Nat), updF (updF fs i π x) i π y = updF fs i π y
  | [], _, _ => by simp [updF]
  | (_, c) :: _, 0, π => by simp only [updF]; rw [Cell.upd_upd x y c π]
  | _ :: fs, i + 1, π => by simp only [updF]; rw [updF_upd x y fs i π]
theorem updK_upd (x y : Cell) : ∀ (fs : List (Key × Cell)) (i : Nat) (π : List Nat), updK (updK fs i π x) i π y = updK fs i π y
  | [], _, _ => by simp [updK]
  | (_, c) :: _, 0, π => by simp only [updK]; rw [Cell.upd_upd x y c π]
  | _ :: fs, i + 1, π => by simp only [updK]; rw [updK_upd x y fs i π]
end
/-- the value at a place, over the heap -/
inductive LocV (H : Hp) : V → List Nat → V → Prop
  | nil {v : V} : LocV H v [] v
  | fld {p C dx : Addr} {vs : List (Str × V)} {i : Nat} {f : Str} {w v : V} {π : List Nat} : H p = some (.ins C dx vs) → vs[i]? = some (f, w) → LocV H w π v → LocV H (.ref p) (i :: π) v
  | key {p : Addr} {vs : List (Key × V)} {i : Nat} {k : Key} {w v : V} {π : List Nat} : H p = some (.dK vs) → vs[i]? = some (k, w) → LocV H w π v → LocV H (.ref p) (i :: π) v

section
variable {K : PySem.W.Frag} {F H : Hp}
mutual
theorem RepC.take : ∀ {fp : List Addr} {v : V} {c : Cell}, RepC K F H fp v c → ∀ {π : List Nat} {c' : Cell}, c.at π = some c' →
    ∃ v' fp' fp1, LocV H v π v' ∧ RepC K F H fp' v' c' ∧ RepC K F H fp1 v (c.upd π (.hl v')) ∧ (∀ a, a ∈ fp ↔ a ∈ fp1 ∨ a ∈ fp') ∧ (∀ a ∈ fp', a ∉ fp1)
  | fp, v, c, r, [], c', h => by
    have e : c = c' := by cases c <;> simpa [Cell.at] using h
    subst e
    refine ⟨v, fp, [], .nil, r, ?_, by simp, by simp⟩
    have : c.upd [] (.hl v) = .hl v := by cases c <;> simp [Cell.upd]
    rw [this]; exact .hl
  | _, _, _, .ob (p := p) h1 r n, i :: π, c', h => by
    simp only [Cell.at] at h
    obtain ⟨f, w, v', fp', fp1, a1, a2, a3, a4, a5, a6⟩ := RepCF.take r h
    refine ⟨v', fp', p :: fp1, .fld h1 a1 a2, a3, ?_, fun a => ?_, fun a ha => ?_⟩
    · simp only [Cell.upd]
      exact .ob h1 a4 fun z => n ((a5 _).mpr (.inl z))
    · rw [List.mem_cons, List.mem_cons, a5 a, or_assoc]
    · intro z
      rcases List.mem_cons.mp z with e | z
      · subst e; exact n ((a5 _).mpr (.inr ha))
      · exact a6 a ha z
  | _, _, _, .oc (p := p) h1 l r n dd, i :: π, c', h => by
    simp only [Cell.at] at h
    obtain ⟨f, w, v', fp', fp1, a1, a2, a3, a4, a5, a6⟩ := RepCK.take r h
    refine ⟨v', fp', p :: fp1, .key h1 a1 a2, a3, ?_, fun a => ?_, fun a ha => ?_⟩
    · simp only [Cell.upd]
      exact .oc h1 l a4 (fun z => n ((a5 _).mpr (.inl z))) dd
    · rw [List.mem_cons, List.mem_cons, a5 a, or_assoc]
    · intro z
      rcases List.mem_cons.mp z with e | z
      · subst e; exact n ((a5 _).mpr (.inr ha))
      · exact a6 a ha z
  | _, _, _, .fz _, _ :: _, _, h => by simp [Cell.at] at h
  | _, _, _, .ol _ _ _, _ :: _, _, h => by simp [Cell.at] at h
  | _, _, _, .od _ _ _ _, _ :: _, _, h => by simp [Cell.at] at h
  | _, _, _, .odt _ _ _ _, _ :: _, _, h => by simp [Cell.at] at h
  | _, _, _, .hl, _ :: _, _, h => by simp [Cell.at] at h
  | _, _, _, .fl _ _ _, _ :: _, _, h => by simp [Cell.at] at h
theorem RepCF.take : ∀ {fp : List Addr} {vs : List (Str × V)} {fs : List (Str × Cell)}, RepCF K F H fp vs fs → ∀ {i : Nat} {π : List Nat} {c' : Cell}, atF fs i π = some c' →
    ∃ f w v' fp' fp1, vs[i]? = some (f, w) ∧ LocV H w π v' ∧ RepC K F H fp' v' c' ∧ RepCF K F H fp1 vs (updF fs i π (.hl v')) ∧ (∀ a, a ∈ fp ↔ a ∈ fp1 ∨ a ∈ fp') ∧ (∀ a ∈ fp', a ∉ fp1)
  | _, _, _, .nil, _, _, _, h => by simp [atF] at h
  | _, _, _, .cons (k := kk) (v := vv) (fp := fpa) (fq := fqa) r rs d, 0, π, c', h => by
    simp only [atF] at h
    obtain ⟨v', fp', fp1, a1, a2, a3, a4, a5⟩ := RepC.take r h
    refine ⟨kk, vv, v', fp', fp1 ++ fqa, rfl, a1, a2, ?_, fun a => ?_, fun a ha => ?_⟩
    · simp only [updF]
      exact .cons a3 rs fun a ha => d a ((a4 a).mpr (.inl ha))
    · rw [List.mem_append, List.mem_append, a4 a]
      constructor
      · rintro ((h | h) | h)
        · exact .inl (.inl h)
        · exact .inr h
        · exact .inl (.inr h)
      · rintro ((h | h) | h)
        · exact .inl (.inl h)
        · exact .inr h
        · exact .inl (.inr h)
    · intro z
      rcases List.mem_append.mp z with z | z
      · exact a5 a ha z
      · exact d a ((a4 a).mpr (.inr ha)) z
  | _, _, _, .cons (fp := fpa) (fq := fqa) r rs d, i + 1, π, c', h => by
    simp only [atF] at h
    obtain ⟨f, w, v', fp', fp1, a1, a2, a3, a4, a5, a6⟩ := RepCF.take rs h
    refine ⟨f, w, v', fp', fpa ++ fp1, by simpa using a1, a2, a3, ?_, fun a => ?_, fun a ha => ?_⟩
    · simp only [updF]
      exact .cons r a4 fun a ha z => d a ha ((a5 a).mpr (.inl z))
    · rw [List.mem_append, List.mem_append, a5 a, or_assoc]
    · intro z
      rcases List.mem_append.mp z with z | z
      · exact d a z ((a5 a).mpr (.inr ha))
      · exact a6 a ha z
theorem RepCK.take : ∀ {fp : List Addr} {vs : List (Key × V)} {fs : List (Key × Cell)}, RepCK K F H fp vs fs → ∀ {i : Nat} {π : List Nat} {c' : Cell}, atK fs i π = some c' →
    ∃ f w v' fp' fp1, vs[i]? = some (f, w) ∧ LocV H w π v' ∧ RepC K F H fp' v' c' ∧ RepCK K F H fp1 vs (updK fs i π (.hl v')) ∧ (∀ a, a ∈ fp ↔ a ∈ fp1 ∨ a ∈ fp') ∧ (∀ a ∈ fp', a ∉ fp1)
  | _, _, _, .nil, _, _, _, h => by simp [atK] at h
  | _, _, _, .cons (k := kk) (v := vv) (fp := fpa) (fq := fqa) o r rs d, 0, π, c', h => by
    simp only [atK] at h
    obtain ⟨v', fp', fp1, a1, a2, a3, a4, a5⟩ := RepC.take r h
    refine ⟨kk, vv, v', fp', fp1 ++ fqa, rfl, a1, a2, ?_, fun a => ?_, fun a ha => ?_⟩
    · simp only [updK]
      exact .cons o a3 rs fun a ha => d a ((a4 a).mpr (.inl ha))
    · rw [List.mem_append, List.mem_append, a4 a]
      constructor
      · rintro ((h | h) | h)
        · exact .inl (.inl h)
        · exact .inr h
        · exact .inl (.inr h)
      · rintro ((h | h) | h)
        · exact .inl (.inl h)
        · exact .inr h
        · exact .inl (.inr h)
    · intro z
      rcases List.mem_append.mp z with z | z
      · exact a5 a ha z
      · exact d a ((a4 a).mpr (.inr ha)) z
  | _, _, _, .cons (fp := fpa) (fq := fqa) o r rs d, i + 1, π, c', h => by
    simp only [atK] at h
    obtain ⟨f, w, v', fp', fp1, a1, a2, a3, a4, a5, a6⟩ := RepCK.take rs h
    refine ⟨f, w, v', fp', fpa ++ fp1, by simpa using a1, a2, a3, ?_, fun a => ?_, fun a ha => ?_⟩
    · simp only [updK]
      exact .cons o r a4 fun a ha z => d a ha ((a5 a).mpr (.inl z))
    · rw [List.mem_append, List.mem_append, a5 a, or_assoc]
    · intro z
      rcases List.mem_append.mp z with z | z
      · exact d a z ((a5 a).mpr (.inr ha))
      · exact a6 a ha z
end
mutual
theorem RepC.give {fp' : List Addr} {v' : V} {c' : Cell} (r' : RepC K F H fp' v' c') : ∀ {fp : List Addr} {v : V} {c : Cell}, RepC K F H fp v c → ∀ {π : List Nat}, c.at π = some (.hl v') → (∀ a ∈ fp', a ∉ fp) →
    ∃ fp1, RepC K F H fp1 v (c.upd π c') ∧ (∀ a, a ∈ fp1 ↔ a ∈ fp ∨ a ∈ fp')
  | fp, v, c, r, [], h, d => by
    have e : c = .hl v' := by cases c <;> simpa [Cell.at] using h
    subst e
    obtain ⟨rfl, rfl⟩ := r.hl_inv
    exact ⟨fp', by simpa [Cell.upd] using r', by simp⟩
  | _, _, _, .ob (p := p) h1 r n, i :: π, h, d => by
    simp only [Cell.at] at h
    obtain ⟨fp1, a1, a2⟩ := RepCF.give r' r h fun a ha z => d a ha (List.mem_cons_of_mem _ z)
    refine ⟨p :: fp1, ?_, fun a => by rw [List.mem_cons, List.mem_cons, a2 a, or_assoc]⟩
    simp only [Cell.upd]
    exact .ob h1 a1 fun z => ((a2 _).mp z).elim n fun z => d _ z (by simp)
  | _, _, _, .oc (p := p) h1 l r n dd, i :: π, h, d => by
    simp only [Cell.at] at h
    obtain ⟨fp1, a1, a2⟩ := RepCK.give r' r h fun a ha z => d a ha (List.mem_cons_of_mem _ z)
    refine ⟨p :: fp1, ?_, fun a => by rw [List.mem_cons, List.mem_cons, a2 a, or_assoc]⟩
    simp only [Cell.upd]
    exact .oc h1 l a1 (fun z => ((a2 _).mp z).elim n fun z => d _ z (by simp)) dd
  | _, _, _, .fz _, _ :: _, h, _ => by simp [Cell.at] at h
  | _, _, _, .ol _ _ _, _ :: _, h, _ => by simp [Cell.at] at h
  | _, _, _, .od _ _ _ _, _ :: _, h, _ => by simp [Cell.at] at h
  | _, _, _, .odt _ _ _ _, _ :: _, h, _ => by simp [Cell.at] at h
  | _, _, _, .hl, _ :: _, h, _ => by simp [Cell.at] at h
  | _, _, _, .fl _ _ _, _ :: _, h, _ => by simp [Cell.at] at h
theorem RepCF.give {fp' : List Addr} {v' : V} {c' : Cell} (r' : RepC K F H fp' v' c') : ∀ {fp : List Addr} {vs : List (Str × V)} {fs : List (Str × Cell)}, RepCF K F H fp vs fs → ∀ {i : Nat} {π : List Nat}, atF fs i π = some (.hl v') → (∀ a ∈ fp', a ∉ fp) →
    ∃ fp1, RepCF K F H fp1 vs (updF fs i π c') ∧ (∀ a, a ∈ fp1 ↔ a ∈ fp ∨ a ∈ fp')
  | _, _, _, .nil, _, _, h, _ => by simp [atF] at h
  | _, _, _, .cons (fp := fpa) (fq := fqa) r rs d, 0, π, h, dd => by
    simp only [atF] at h
    obtain ⟨fp1, a1, a2⟩ := RepC.give r' r h fun a ha z => dd a ha (List.mem_append_left _ z)
    refine ⟨fp1 ++ fqa, ?_, fun a => ?_⟩
    · simp only [updF]
      exact .cons a1 rs fun a ha => ((a2 a).mp ha).elim (d a) fun z y => dd a z (List.mem_append_right _ y)
    · rw [List.mem_append, List.mem_append, a2 a]
      constructor
      · rintro ((h | h) | h)
        · exact .inl (.inl h)
        · exact .inr h
        · exact .inl (.inr h)
      · rintro ((h | h) | h)
        · exact .inl (.inl h)
        · exact .inr h
        · exact .inl (.inr h)
  | _, _, _, .cons (fp := fpa) (fq := fqa) r rs d, i + 1, π, h, dd => by
    simp only [atF] at h
    obtain ⟨fp1, a1, a2⟩ := RepCF.give r' rs h fun a ha z => dd a ha (List.mem_append_right _ z)
    refine ⟨fpa ++ fp1, ?_, fun a => by rw [List.mem_append, List.mem_append, a2 a, or_assoc]⟩
    simp only [updF]
    exact .cons r a1 fun a ha z => ((a2 a).mp z).elim (d a ha) fun y => dd a y (List.mem_append_left _ ha)
theorem RepCK.give {fp' : List Addr} {v' : V} {c' : Cell} (r' : RepC K F H fp' v' c') : ∀ {fp : List Addr} {vs : List (Key × V)} {fs : List (Key × Cell)}, RepCK K F H fp vs fs → ∀ {i : Nat} {π : List Nat}, atK fs i π = some (.hl v') → (∀ a ∈ fp', a ∉ fp) →
    ∃ fp1, RepCK K F H fp1 vs (updK fs i π c') ∧ (∀ a, a ∈ fp1 ↔ a ∈ fp ∨ a ∈ fp')
  | _, _, _, .nil, _, _, h, _ => by simp [atK] at h
  | _, _, _, .cons (fp := fpa) (fq := fqa) o r rs d, 0, π, h, dd => by
    simp only [atK] at h
    obtain ⟨fp1, a1, a2⟩ := RepC.give r' r h fun a ha z => dd a ha (List.mem_append_left _ z)
    refine ⟨fp1 ++ fqa, ?_, fun a => ?_⟩
    · simp only [updK]
      exact .cons o a1 rs fun a ha => ((a2 a).mp ha).elim (d a) fun z y => dd a z (List.mem_append_right _ y)
    · rw [List.mem_append, List.mem_append, a2 a]
      constructor
      · rintro ((h | h) | h)
        · exact .inl (.inl h)
        · exact .inr h
        · exact .inl (.inr h)
      · rintro ((h | h) | h)
        · exact .inl (.inl h)
        · exact .inr h
        · exact .inl (.inr h)
  | _, _, _, .cons (fp := fpa) (fq := fqa) o r rs d, i + 1, π, h, dd => by
    simp only [atK] at h
    obtain ⟨fp1, a1, a2⟩ := RepCK.give r' rs h fun a ha z => dd a ha (List.mem_append_right _ z)
    refine ⟨fpa ++ fp1, ?_, fun a => by rw [List.mem_append, List.mem_append, a2 a, or_assoc]⟩
    simp only [updK]
    exact .cons o r a1 fun a ha z => ((a2 a).mp z).elim (d a ha) fun y => dd a y (List.mem_append_left _ ha)
end
end

/-! ### places of the names -/
def atG (G : Env) (i : Nat) (π : List Nat) : Option Cell := match G[i]? with
  | some (some c) => c.at π
  | _ => none
def updG (G : Env) (i : Nat) (π : List Nat) (x : Cell) : Env := match G[i]? with
  | some (some c) => G.set i (some (c.upd π x))
  | _ => G
theorem updG_len (G : Env) (i : Nat) (π : List Nat) (x : Cell) : (updG G i π x).length = G.length := by
  unfold updG
  split <;> simp
theorem atG_some {G : Env} {i : Nat} {π : List Nat} {c : Cell} (h : atG G i π = some c) : ∃ c0, G[i]? = some (some c0) ∧ c0.at π = some c := by
  unfold atG at h
  split at h
  · rename_i c0 e; exact ⟨c0, e, h⟩
  · cases h
theorem atG_upd {G : Env} {i : Nat} {π : List Nat} {c x : Cell} (h : atG G i π = some c) : atG (updG G i π x) i π = some x := by
  obtain ⟨c0, e, h⟩ := atG_some h
  have hl : i < G.length := (List.getElem?_eq_some_iff.mp e).1
  unfold atG updG
  rw [e]
  simp only [List.getElem?_set_self hl]
  exact Cell.at_upd x c0 π (by rw [h]; rfl)
theorem updG_upd {G : Env} {i : Nat} {π : List Nat} {x y : Cell} : updG (updG G i π x) i π y = updG G i π y := by
  unfold updG
  cases e : G[i]? with
  | none => simp only []; rw [e]
  | some o =>
    cases o with
    | none => simp only []; rw [e]
    | some c =>
      have hl : i < G.length := (List.getElem?_eq_some_iff.mp e).1
      simp only [List.getElem?_set_self hl, Cell.upd_upd, List.set_set]
theorem atG_ne {G : Env} {i j : Nat} {π ρ : List Nat} {x : Cell} (h : i ≠ j) : atG (updG G i π x) j ρ = atG G j ρ := by
  unfold atG updG
  cases e : G[i]? with
  | none => rfl
  | some o =>
    cases o with
    | none => rfl
    | some c => simp only [List.getElem?_set_ne h]
theorem updG_comm {G : Env} {i j : Nat} {π ρ : List Nat} {x y : Cell} (h : i ≠ j) : updG (updG G i π x) j ρ y = updG (updG G j ρ y) i π x := by
  unfold updG
  cases e : G[i]? with
  | none =>
    simp only []
    cases e' : G[j]? with
    | none => simp only []; rw [e]
    | some o =>
      cases o with
      | none => simp only []; rw [e]
      | some c => simp only [List.getElem?_set_ne (Ne.symm h), e]
  | some o =>
    cases o with
    | none =>
      simp only []
      cases e' : G[j]? with
      | none => simp only []; rw [e]
      | some o =>
        cases o with
        | none => simp only []; rw [e]
        | some c => simp only [List.getElem?_set_ne (Ne.symm h), e]
    | some c =>
      simp only [List.getElem?_set_ne h]
      cases e' : G[j]? with
      | none => simp only [e]
      | some o =>
        cases o with
        | none => simp only [e]
        | some c2 =>
          simp only [List.getElem?_set_ne (Ne.symm h), e]
          rw [List.set_comm _ _ h]
/-- the value at a place of the names -/
def LocG (H : Hp) (σ : L2.St) (i : Nat) (π : List Nat) (v : V) : Prop := ∃ u, σ[i]? = some (some u) ∧ LocV H u π v
theorem LocV.fun {H : Hp} : ∀ {π : List Nat} {u v w : V}, LocV H u π v → LocV H u π w → v = w
  | _, _, _, _, .nil, .nil => rfl
  | _, _, _, _, .fld a b c, .fld a' b' c' => by
    rw [a] at a'; cases a'
    rw [b] at b'; cases b'
    exact c.fun c'
  | _, _, _, _, .key a b c, .key a' b' c' => by
    rw [a] at a'; cases a'
    rw [b] at b'; cases b'
    exact c.fun c'
  | _, _, _, _, .fld a _ _, .key a' _ _ => by rw [a] at a'; cases a'
  | _, _, _, _, .key a _ _, .fld a' _ _ => by rw [a] at a'; cases a'
theorem LocG.fun {H : Hp} {σ : L2.St} {i : Nat} {π : List Nat} {v w : V} (h : LocG H σ i π v) (h' : LocG H σ i π w) : v = w := by
  obtain ⟨u, a, b⟩ := h
  obtain ⟨u', a', b'⟩ := h'
  rw [a] at a'; cases a'
  exact b.fun b'
theorem LocV.mono {H H' : Hp} (e : ExH H H') : ∀ {π : List Nat} {u v : V}, LocV H u π v → LocV H' u π v
  | _, _, _, .nil => .nil
  | _, _, _, .fld a b c => .fld (e.h a) b (c.mono e)
  | _, _, _, .key a b c => .key (e.h a) b (c.mono e)
theorem LocG.mono {H H' : Hp} (e : ExH H H') {σ : L2.St} {i : Nat} {π : List Nat} {v : V} (h : LocG H σ i π v) : LocG H' σ i π v := ⟨h.choose, h.choose_spec.1, h.choose_spec.2.mono e⟩

section
variable {K : PySem.W.Frag} {F H : Hp} {σ : L2.St} {G : Env} {fps : Nat → List Addr}
def put (fps : Nat → List Addr) (i : Nat) (fp : List Addr) : Nat → List Addr := fun j => if j = i then fp else fps j
theorem put_same {fps : Nat → List Addr} {i : Nat} {fp : List Addr} : put fps i fp i = fp := if_pos rfl
theorem put_ne {fps : Nat → List Addr} {i j : Nat} {fp : List Addr} (h : j ≠ i) : put fps i fp j = fps j := if_neg h
/-- another cell for the value of a name -/
theorem EnvOk.recell {i : Nat} {c0 c1 : Cell} {fp : List Addr} {v : V} (E : EnvOk K F H σ G fps) (hg : G[i]? = some (some c0)) (hv : σ[i]? = some (some v)) (r : RepC K F H fp v c1) (own : ∀ a ∈ fp, F a = none ∧ H a ≠ none) (dis : ∀ a ∈ fp, ∀ j, j ≠ i → a ∉ fps j) :
    EnvOk K F H σ (G.set i (some c1)) (put fps i fp) := by
  have hl : i < G.length := (List.getElem?_eq_some_iff.mp hg).1
  refine ⟨E.sub, by rw [List.length_set]; exact E.len, fun j c h => ?_, fun j a h => ?_, fun j k a h h' => ?_, E.tab⟩
  · by_cases hj : j = i
    · subst hj
      rw [List.getElem?_set_self hl] at h; cases h
      exact ⟨v, hv, by rw [put_same]; exact r⟩
    · rw [List.getElem?_set_ne (fun z => hj z.symm)] at h
      rw [put_ne hj]
      exact E.ent j c h
  · by_cases hj : j = i
    · subst hj; rw [put_same] at h; exact own a h
    · rw [put_ne hj] at h; exact E.own j a h
  · by_cases hj : j = i
    · subst hj
      by_cases hk : k = j
      · exact hk.symm
      · rw [put_same] at h; rw [put_ne hk] at h'
        exact absurd h' (dis a h k hk)
    · rw [put_ne hj] at h
      by_cases hk : k = i
      · subst hk; rw [put_same] at h'
        exact absurd h (dis a h' j hj)
      · rw [put_ne hk] at h'
        exact E.dis j k a h h'
/-- a cell is taken out of its place -/
theorem EnvOk.take (E : EnvOk K F H σ G fps) {i : Nat} {π : List Nat} {c : Cell} (h : atG G i π = some c) :
    ∃ v fpc fps1, LocG H σ i π v ∧ RepC K F H fpc v c ∧ EnvOk K F H σ (updG G i π (.hl v)) fps1 ∧ (∀ a, Owns fps a ↔ Owns fps1 a ∨ a ∈ fpc) ∧ (∀ a ∈ fpc, ¬ Owns fps1 a) := by
  obtain ⟨c0, e, h0⟩ := atG_some h
  obtain ⟨u, hu, r⟩ := E.ent i c0 e
  obtain ⟨v, fpc, fp1, a1, a2, a3, a4, a5⟩ := r.take h0
  have E1 := E.recell e hu a3 (fun a ha => E.own i a ((a4 a).mpr (.inl ha))) (fun a ha j hj z => hj (E.dis j i a z ((a4 a).mpr (.inl ha))))
  refine ⟨v, fpc, put fps i fp1, ⟨u, hu, a1⟩, a2, by unfold updG; rw [e]; exact E1, fun a => ⟨fun ⟨j, z⟩ => ?_, fun z => ?_⟩, fun a ha ⟨j, z⟩ => ?_⟩
  · by_cases hj : j = i
    · subst hj
      rcases (a4 a).mp z with z | z
      · exact .inl ⟨j, by rw [put_same]; exact z⟩
      · exact .inr z
    · exact .inl ⟨j, by rw [put_ne hj]; exact z⟩
  · rcases z with ⟨j, z⟩ | z
    · by_cases hj : j = i
      · subst hj; rw [put_same] at z; exact ⟨j, (a4 a).mpr (.inl z)⟩
      · rw [put_ne hj] at z; exact ⟨j, z⟩
    · exact ⟨i, (a4 a).mpr (.inr z)⟩
  · by_cases hj : j = i
    · subst hj; rw [put_same] at z; exact a5 a ha z
    · rw [put_ne hj] at z
      exact hj (E.dis j i a z ((a4 a).mpr (.inr ha)))
/-- a cell is given into a hole -/
theorem EnvOk.give (E : EnvOk K F H σ G fps) {i : Nat} {π : List Nat} {v : V} {c : Cell} {fpc : List Addr} (h : atG G i π = some (.hl v)) (r : RepC K F H fpc v c) (n : ∀ a ∈ fpc, F a = none ∧ H a ≠ none) (d : ∀ a ∈ fpc, ¬ Owns fps a) :
    ∃ fps1, EnvOk K F H σ (updG G i π c) fps1 ∧ ∀ a, Owns fps1 a ↔ Owns fps a ∨ a ∈ fpc := by
  obtain ⟨c0, e, h0⟩ := atG_some h
  obtain ⟨u, hu, r0⟩ := E.ent i c0 e
  obtain ⟨fp1, a1, a2⟩ := r.give r0 h0 fun a ha z => d a ha ⟨i, z⟩
  have E1 := E.recell e hu a1 (fun a ha => ((a2 a).mp ha).elim (E.own i a) (n a)) (fun a ha j hj z => ((a2 a).mp ha).elim (fun y => hj (E.dis j i a z y)) fun y => d a y ⟨j, z⟩)
  refine ⟨put fps i fp1, by unfold updG; rw [e]; exact E1, fun a => ⟨fun ⟨j, z⟩ => ?_, fun z => ?_⟩⟩
  · by_cases hj : j = i
    · subst hj
      rw [put_same] at z
      exact ((a2 a).mp z).imp (fun y => ⟨j, y⟩) id
    · rw [put_ne hj] at z; exact .inl ⟨j, z⟩
  · rcases z with ⟨j, z⟩ | z
    · by_cases hj : j = i
      · subst hj; exact ⟨j, by rw [put_same]; exact (a2 a).mpr (.inl z)⟩
      · exact ⟨j, by rw [put_ne hj]; exact z⟩
    · exact ⟨i, by rw [put_same]; exact (a2 a).mpr (.inr z)⟩
/-- what is owned stands while the rest changes -/
theorem EnvOk.keep {O : Addr → Prop} {F' H' : Hp} (E : EnvOk K F H σ G fps) (ex : Ex F F') (s : Sub F' H') (e : ExO O H H') (k : ∀ a, Owns fps a → ¬ O a) (n : ∀ a, Owns fps a → F' a = none) (tn : ∀ P, TabAt K P → F' P = none) : EnvOk K F' H' σ G fps := by
  refine ⟨s, E.len, fun i c h => ?_, fun i a h => ⟨n a ⟨i, h⟩, e.n a (k a ⟨i, h⟩) (E.own i a h).2⟩, E.dis, fun P h => ⟨tn P h, e.t P (E.tab P h).2⟩⟩
  obtain ⟨v, h1, h2⟩ := E.ent i c h
  exact ⟨v, h1, RepC.mono ex (fun a ha o z m => e.k a o (k a ⟨i, ha⟩) z m) h2⟩
theorem EnvOk.ownF (E : EnvOk K F H σ G fps) {a : Addr} (h : Owns fps a) : F a = none ∧ H a ≠ none := E.own h.choose a h.choose_spec

/-! ### freezing -/
mutual
def Cell.data : Cell → Option Dt
  | .fz d => some d
  | .ol ds => some (.lst ds)
  | .od kvs => some (.dic kvs)
  | .odt kvs => some (.dit kvs)
  | .oc kvs => (dataK kvs).map .dic
  | .ob C fs => (dataF fs).map (.ins C)
  | .hl _ => none
  | .fl _ ds => some (.lst ds)
def dataF : List (Str × Cell) → Option (List (Str × Dt))
  | [] => some []
  | (k, c) :: fs => match c.data, dataF fs with
    | some d, some ds => some ((k, d) :: ds)
    | _, _ => none
def dataK : List (Key × Cell) → Option (List (Key × Dt))
  | [] => some []
  | (k, c) :: fs => match c.data, dataK fs with
    | some d, some ds => some ((k, d) :: ds)
    | _, _ => none
end
theorem repCK_len : ∀ {fp : List Addr} {vs : List (Key × V)} {kvs : List (Key × Cell)}, RepCK K F H fp vs kvs → vs.length = kvs.length
  | _, _, _, .nil => rfl
  | _, _, _, .cons _ _ rs _ => congrArg (· + 1) (repCK_len rs)
theorem repCF_len : ∀ {fp : List Addr} {vs : List (Str × V)} {kvs : List (Str × Cell)}, RepCF K F H fp vs kvs → vs.length = kvs.length
  | _, _, _, .nil => rfl
  | _, _, _, .cons _ rs _ => congrArg (· + 1) (repCF_len rs)
mutual
/-- in a heap that has all that is owned, frozen -/
theorem RepC.frozen {F' : Hp} (ex : Ex F F') : ∀ {fp : List Addr} {v : V} {c : Cell}, RepC K F H fp v c → (∀ a ∈ fp, F' a = H a) → ∀ {d : Dt}, c.data = some d → Rep K F' v d
  | _, _, _, .fz r, k, d, h => by simp only [Cell.data] at h; cases h; exact r.mono ex
  | _, _, _, .ol h1 l r, k, d, h => by simp only [Cell.data] at h; cases h; exact .lst (by rw [k _ (by simp)]; exact h1) l (r.mono ex)
  | _, _, _, .od h1 l r n, k, d, h => by simp only [Cell.data] at h; cases h; exact .dic (by rw [k _ (by simp)]; exact h1) l (r.mono ex) n
  | _, _, _, .odt h1 l r n, k, d, h => by simp only [Cell.data] at h; cases h; exact .dit (by rw [k _ (by simp)]; exact h1) l (r.mono ex) n
  | _, _, _, .oc h1 l r n nd, k, d, h => by
    simp only [Cell.data] at h
    rename_i kvs
    cases e : dataK kvs with
    | none => rw [e] at h; cases h
    | some ds =>
      rw [e] at h; cases h
      exact .dic (by rw [k _ (by simp)]; exact h1) l (RepCK.frozen ex r (fun a ha => k a (List.mem_cons_of_mem _ ha)) e) nd
  | _, _, _, .ob h1 r n, k, d, h => by
    simp only [Cell.data] at h
    rename_i fs
    cases e : dataF fs with
    | none => rw [e] at h; cases h
    | some ds =>
      rw [e] at h; cases h
      exact .ins (by rw [k _ (by simp)]; exact h1) (RepCF.frozen ex r (fun a ha => k a (List.mem_cons_of_mem _ ha)) e)
  | _, _, _, .hl, k, d, h => by simp [Cell.data] at h
  | _, _, _, .fl h1 l r, k, d, h => by simp only [Cell.data] at h; cases h; exact .lst (ex _ _ h1) l (r.mono ex)
theorem RepCF.frozen {F' : Hp} (ex : Ex F F') : ∀ {fp : List Addr} {vs : List (Str × V)} {fs : List (Str × Cell)}, RepCF K F H fp vs fs → (∀ a ∈ fp, F' a = H a) → ∀ {ds : List (Str × Dt)}, dataF fs = some ds → RepF K F' vs ds
  | _, _, _, .nil, k, d, h => by simp only [dataF] at h; cases h; exact .nil
  | _, _, _, .cons (c := c) (kvs := kvs) r rs _, k, d, h => by
    simp only [dataF] at h
    cases e : c.data with
    | none => rw [e] at h; cases h
    | some x =>
      cases e' : dataF kvs with
      | none => rw [e, e'] at h; cases h
      | some y =>
        rw [e, e'] at h; cases h
        exact .cons (RepC.frozen ex r (fun a ha => k a (List.mem_append_left _ ha)) e) (RepCF.frozen ex rs (fun a ha => k a (List.mem_append_right _ ha)) e')
theorem RepCK.frozen {F' : Hp} (ex : Ex F F') : ∀ {fp : List Addr} {vs : List (Key × V)} {fs : List (Key × Cell)}, RepCK K F H fp vs fs → (∀ a ∈ fp, F' a = H a) → ∀ {ds : List (Key × Dt)}, dataK fs = some ds → RepK K F' vs ds
  | _, _, _, .nil, k, d, h => by simp only [dataK] at h; cases h; exact .nil
  | _, _, _, .cons (c := c) (kvs := kvs) o r rs _, k, d, h => by
    simp only [dataK] at h
    cases e : c.data with
    | none => rw [e] at h; cases h
    | some x =>
      cases e' : dataK kvs with
      | none => rw [e, e'] at h; cases h
      | some y =>
        rw [e, e'] at h; cases h
        exact .cons o (RepC.frozen ex r (fun a ha => k a (List.mem_append_left _ ha)) e) (RepCK.frozen ex rs (fun a ha => k a (List.mem_append_right _ ha)) e')
end
open Classical in
/-- what is frozen, with some addresses more -/
noncomputable def frz (F H : Hp) (fp : List Addr) : Hp := fun a => if a ∈ fp then H a else F a
theorem frz_in {fp : List Addr} {a : Addr} (h : a ∈ fp) : frz F H fp a = H a := if_pos h
theorem frz_out {fp : List Addr} {a : Addr} (h : a ∉ fp) : frz F H fp a = F a := if_neg h
theorem frz_ex {fp : List Addr} (n : ∀ a ∈ fp, F a = none) : Ex F (frz F H fp) := fun a o h => by
  by_cases q : a ∈ fp
  · rw [n a q] at h; cases h
  · rw [frz_out q]; exact h
theorem frz_sub {fp : List Addr} (s : Sub F H) : Sub (frz F H fp) H := fun a o h => by
  by_cases q : a ∈ fp
  · rw [frz_in q] at h; exact .inl h
  · rw [frz_out q] at h; exact s a o h
end
end Vs

/-! Expressions over data. -/
namespace Vs
open PySem PySem.Spec L2
theorem len_app (s t : Str) : (s ++ t).length = s.length + t.length := by
  show (s.cps ++ t.cps).size = s.cps.size + t.cps.size
  exact Array.size_append
section
variable {I : Type} {X : I → Cx} {K : PySem.W.Frag} {G : Env}

theorem ea_cons {e : Expr} {es : List Expr} {d : Dt} {ds : List Dt} (h : EX X K G e d) (hr : EA X K G es ds)
    (hs : ∀ j, starEach (e :: es) (X j).env = (false, eval e (X j).env) :: starEach es (X j).env := by intro _; rfl) : EA X K G (e :: es) (d :: ds) := fun F H σ fps Q k q =>
  ⟨tCons (wpE X e) (wpA X es), fun j => pa_cons (pe_wp j) (pa_wp j) (hs j), h F H σ fps _ k fun F1 H1 v u1 r1 => hr F1 H1 σ fps _ (k.up u1) fun F2 H2 vs u2 r2 => q F2 H2 (v :: vs) (u1.trans u2) (.cons (r1.mono u2.fr) r2)⟩

/-- two parts, then an operator by values -/
theorem ex_op2 {op : Operator} {r : R2} {a b : Expr} {pos : Pos} {x y z : Dt} (ho : ∀ j, OpR (X j) (binaryOp op) r) (ha : EX X K G a x) (hb : EX X K G b y)
    (hr : ∀ F H v w (Q : VK), Sub F H → Rep K F v x → Rep K F w y → (∀ F' H' u, Up F H F' H' → Rep K F' u z → Q u H') → r v w H Q) : EX X K G (.BinOp a op b pos) z := fun F H σ fps Q k q =>
  ⟨tOp r (wpE X a) (wpE X b), fun j => pe_op (ho j) (pe_wp j) (pe_wp j), ha F H σ fps _ k fun F1 H1 v u1 r1 => hb F1 H1 σ fps _ (k.up u1) fun F2 H2 w u2 r2 =>
    hr F2 H2 v w Q u2.sb (r1.mono u2.fr) r2 fun F3 H3 u u3 r3 => q F3 H3 u ((u1.trans u2).trans u3) r3⟩
/-- an operator on ints -/
theorem ex_opI {op : Operator} {C : Int → Int → Prop} {g : Int → Int → Int} {a b : Expr} {pos : Pos} {i j : Int} (ho : ∀ k, OpR (X k) (binaryOp op) (rI C fun i j => .int (g i j))) (ha : EX X K G a (.int i)) (hb : EX X K G b (.int j)) (hc : C i j) :
    EX X K G (.BinOp a op b pos) (.int (g i j)) := ex_op2 ho ha hb fun F H v w Q s r1 r2 q => by
  cases r1; cases r2
  exact ⟨i, j, rfl, rfl, hc, q F H _ (Up.refl s) (.int _)⟩
theorem ex_opI0 {op : Operator} {g : Int → Int → Int} {a b : Expr} {pos : Pos} {i j : Int} (ho : ∀ k, OpR (X k) (binaryOp op) (rI0 fun i j => .int (g i j))) (ha : EX X K G a (.int i)) (hb : EX X K G b (.int j)) :
    EX X K G (.BinOp a op b pos) (.int (g i j)) := ex_op2 ho ha hb fun F H v w Q s r1 r2 q => by
  cases r1; cases r2
  exact ⟨i, j, rfl, rfl, q F H _ (Up.refl s) (.int _)⟩
theorem ex_add {a b : Expr} {pos : Pos} {i j : Int} (ha : EX X K G a (.int i)) (hb : EX X K G b (.int j)) : EX X K G (.BinOp a .Add b pos) (.int (i + j)) := ex_opI0 (g := fun i j => i + j) (fun _ => op_add) ha hb
theorem ex_sub {a b : Expr} {pos : Pos} {i j : Int} (ha : EX X K G a (.int i)) (hb : EX X K G b (.int j)) : EX X K G (.BinOp a .Sub b pos) (.int (i - j)) := ex_opI0 (g := fun i j => i - j) (fun _ => op_sub) ha hb
theorem ex_mul {a b : Expr} {pos : Pos} {i j : Int} (ha : EX X K G a (.int i)) (hb : EX X K G b (.int j)) (h : (-(2 ^ 64) < i ∧ i < 2 ^ 64) ∨ (-(2 ^ 64) < j ∧ j < 2 ^ 64)) : EX X K G (.BinOp a .Mult b pos) (.int (i * j)) := ex_opI (g := fun i j => i * j) (fun _ => op_mul) ha hb h
theorem ex_mod {a b : Expr} {pos : Pos} {i j : Int} (ha : EX X K G a (.int i)) (hb : EX X K G b (.int j)) (h : 0 < j) : EX X K G (.BinOp a .Mod b pos) (.int (i % j)) := ex_opI (g := fun i j => i % j) (fun _ => op_mod) ha hb h
theorem ex_fdiv {a b : Expr} {pos : Pos} {i j : Int} (ha : EX X K G a (.int i)) (hb : EX X K G b (.int j)) (h : 0 < j ∧ j < 1073741824) : EX X K G (.BinOp a .FloorDiv b pos) (.int (i / j)) := ex_opI (g := fun i j => i / j) (fun _ => op_fdiv) ha hb h
theorem ex_pow {a b : Expr} {pos : Pos} {i j : Int} (ha : EX X K G a (.int i)) (hb : EX X K G b (.int j)) (h : 0 ≤ j ∧ j ≤ 1000000 ∧ i.natAbs < 2 ^ 64) : EX X K G (.BinOp a .Pow b pos) (.int (i ^ j.toNat)) := ex_opI (g := fun i j => i ^ j.toNat) (fun _ => op_pow) ha hb h
theorem ex_cat {a b : Expr} {pos : Pos} {s t : Str} (ha : EX X K G a (.str s)) (hb : EX X K G b (.str t)) (h : s.length + t.length ≤ bigS) : EX X K G (.BinOp a .Add b pos) (.str (s ++ t)) := ex_op2 (fun _ => op_add_str) ha hb fun F H v w Q u r1 r2 q => by
  cases r1 with
  | str _ g1 => cases r2 with
    | str _ g2 => exact ⟨s, t, rfl, rfl, Nat.le_trans h (Nat.le_trans bigS_big big_line), q F H _ (Up.refl u) (.str _ (good_app g1 g2 h))⟩
theorem ex_neg {a : Expr} {pos : Pos} {i : Int} (ha : EX X K G a (.int i)) : EX X K G (.UnaryOp .USub a pos) (.int (-i)) := fun F H σ fps Q k q =>
  ⟨tUn _ (wpE X a), fun j => pe_un un_neg (pe_wp j), ha F H σ fps _ k fun F1 H1 v u1 r1 => by cases r1; exact ⟨i, rfl, q F1 H1 _ u1 (.int _)⟩⟩

/-! ### comparisons -/
/-- a comparison by values, as a value and as a test -/
theorem ex_cmp2 {op : CmpOp} {r : R2} {a b : Expr} {pos : Pos} {x y : Dt} {c : Bool} (ho : ∀ j, OpR (X j) (compareOp op) r) (ha : EX X K G a x) (hb : EX X K G b y) (hm : behindInMarks op b = false)
    (hr : ∀ F H v w (Q : VK), Sub F H → Rep K F v x → Rep K F w y → Q (.bl c) H → r v w H Q) : EX X K G (.Compare a [op] [b] pos) (.bl c) := fun F H σ fps Q k q =>
  ⟨tOp r (wpE X a) (wpE X b), fun j => pe_cmpR (ho j) (pe_wp j) (pe_wp j) hm, ha F H σ fps _ k fun F1 H1 v u1 r1 => hb F1 H1 σ fps _ (k.up u1) fun F2 H2 w u2 r2 =>
    hr F2 H2 v w Q u2.sb (r1.mono u2.fr) r2 (q F2 H2 _ (u1.trans u2) (.bl c))⟩
theorem eb_cmp2 {op : CmpOp} {r : R2} {a b : Expr} {pos : Pos} {x y : Dt} {c : Bool} (ho : ∀ j, OpR (X j) (compareOp op) r) (ha : EX X K G a x) (hb : EX X K G b y) (hm : behindInMarks op b = false)
    (hr : ∀ F H v w (Q : VK), Sub F H → Rep K F v x → Rep K F w y → Q (.bl c) H → r v w H Q) : EB X K G (.Compare a [op] [b] pos) c := fun F H σ fps Q k q =>
  ⟨tTest (tOp r (wpE X a) (wpE X b)), fun j => pt_cmpR (ho j) (pe_wp j) (pe_wp j) hm, ha F H σ fps _ k fun F1 H1 v u1 r1 => hb F1 H1 σ fps _ (k.up u1) fun F2 H2 w u2 r2 =>
    hr F2 H2 v w _ u2.sb (r1.mono u2.fr) r2 ⟨c, rfl, q F2 H2 (u1.trans u2)⟩⟩
/-- what a comparison says of two data -/
def Says (X : I → Cx) (K : PySem.W.Frag) (op : CmpOp) (x y : Dt) (c : Bool) : Prop :=
  ∃ r : R2, (∀ j, OpR (X j) (compareOp op) r) ∧ ∀ F H v w (Q : VK), Sub F H → Rep K F v x → Rep K F w y → Q (.bl c) H → r v w H Q
theorem ex_cmp {op : CmpOp} {a b : Expr} {pos : Pos} {x y : Dt} {c : Bool} (s : Says X K op x y c) (ha : EX X K G a x) (hb : EX X K G b y) (hm : behindInMarks op b = false := by rfl) : EX X K G (.Compare a [op] [b] pos) (.bl c) := by
  obtain ⟨r, ho, hr⟩ := s
  exact ex_cmp2 ho ha hb hm hr
theorem eb_cmp {op : CmpOp} {a b : Expr} {pos : Pos} {x y : Dt} {c : Bool} (s : Says X K op x y c) (ha : EX X K G a x) (hb : EX X K G b y) (hm : behindInMarks op b = false := by rfl) : EB X K G (.Compare a [op] [b] pos) c := by
  obtain ⟨r, ho, hr⟩ := s
  exact eb_cmp2 ho ha hb hm hr
theorem says_I {op : CmpOp} {g : Int → Int → Bool} {i j : Int} (ho : ∀ k, OpR (X k) (compareOp op) (rI0 fun i j => .bl (g i j))) : Says X K op (.int i) (.int j) (g i j) := ⟨_, ho, fun F H v w Q s r1 r2 q => by
  cases r1; cases r2
  exact ⟨i, j, rfl, rfl, q⟩⟩
theorem says_lt {i j : Int} : Says X K .Lt (.int i) (.int j) (decide (i < j)) := says_I (g := fun i j => decide (i < j)) fun _ => op_lt
theorem says_le {i j : Int} : Says X K .LtE (.int i) (.int j) (decide (i ≤ j)) := says_I (g := fun i j => decide (i ≤ j)) fun _ => op_le
theorem says_gt {i j : Int} : Says X K .Gt (.int i) (.int j) (decide (j < i)) := says_I (g := fun i j => decide (j < i)) fun _ => op_gt
theorem says_ge {i j : Int} : Says X K .GtE (.int i) (.int j) (decide (j ≤ i)) := says_I (g := fun i j => decide (j ≤ i)) fun _ => op_ge
theorem says_eqI {i j : Int} : Says X K .Eq (.int i) (.int j) (i == j) := ⟨_, fun _ => op_eq, fun F H v w Q s r1 r2 q => by
  cases r1; cases r2
  exact ⟨rfl, by rw [dec_int]; exact q⟩⟩
theorem says_neI {i j : Int} : Says X K .NotEq (.int i) (.int j) (!(i == j)) := ⟨_, fun _ => op_ne, fun F H v w Q s r1 r2 q => by
  cases r1; cases r2
  exact ⟨rfl, by rw [dec_int]; exact q⟩⟩
theorem says_eqS {i j : Str} : Says X K .Eq (.str i) (.str j) (i == j) := ⟨_, fun _ => op_eq, fun F H v w Q s r1 r2 q => by
  cases r1; cases r2
  exact ⟨rfl, by rw [dec_str]; exact q⟩⟩
theorem says_neS {i j : Str} : Says X K .NotEq (.str i) (.str j) (!(i == j)) := ⟨_, fun _ => op_ne, fun F H v w Q s r1 r2 q => by
  cases r1; cases r2
  exact ⟨rfl, by rw [dec_str]; exact q⟩⟩
theorem says_eqB {i j : Bool} : Says X K .Eq (.bl i) (.bl j) (i == j) := ⟨_, fun _ => op_eq, fun F H v w Q s r1 r2 q => by
  cases r1; cases r2
  exact ⟨rfl, by rw [dec_bl]; exact q⟩⟩
theorem says_neB {i j : Bool} : Says X K .NotEq (.bl i) (.bl j) (!(i == j)) := ⟨_, fun _ => op_ne, fun F H v w Q s r1 r2 q => by
  cases r1; cases r2
  exact ⟨rfl, by rw [dec_bl]; exact q⟩⟩
def Dt.isNon : Dt → Bool
  | .non => true
  | _ => false
theorem rep_non {F : Hp} {v : V} {d : Dt} (r : Rep K F v d) : decide (v = .non) = d.isNon := by cases r <;> rfl
theorem says_isN {d : Dt} : Says X K .Is d .non d.isNon := ⟨_, fun _ => op_isN, fun F H v w Q s r1 r2 q => by
  cases r2
  refine ⟨rfl, ?_⟩
  rw [rep_non r1]
  exact q⟩
theorem says_notN {d : Dt} : Says X K .IsNot d .non (!d.isNon) := ⟨_, fun _ => op_notN, fun F H v w Q s r1 r2 q => by
  cases r2
  refine ⟨rfl, ?_⟩
  rw [rep_non r1]
  exact q⟩
/-- a sign in a text -/
theorem says_inC {c : Nat} {s : Str} : Says X K .In (.str ⟨#[c]⟩) (.str s) (decide (c ∈ s.cps.toList)) := ⟨_, fun _ => op_in_sign, fun F H v w Q u r1 r2 q => by
  cases r1; cases r2
  exact ⟨c, s, rfl, rfl, q⟩⟩
theorem says_notInC {c : Nat} {s : Str} : Says X K .NotIn (.str ⟨#[c]⟩) (.str s) (!decide (c ∈ s.cps.toList)) := ⟨_, fun _ => op_notIn_sign, fun F H v w Q u r1 r2 q => by
  cases r1; cases r2
  exact ⟨c, s, rfl, rfl, q⟩⟩
/-- a text in a text -/
def inS (i j : Str) : Bool := !(Builtin.Str.occurrences j i 0 j.length 1).isEmpty
theorem says_inS {i j : Str} : Says X K .In (.str i) (.str j) (inS i j) := ⟨_, fun _ => op_in_str, fun F H v w Q u r1 r2 q => by
  cases r1; cases r2
  exact ⟨i, j, rfl, rfl, q⟩⟩
theorem says_notInS {i j : Str} : Says X K .NotIn (.str i) (.str j) (!inS i j) := ⟨_, fun _ => op_notin_str, fun F H v w Q u r1 r2 q => by
  cases r1; cases r2
  exact ⟨i, j, rfl, rfl, q⟩⟩

/-! ### data compared -/
mutual
def Dt.py : Dt → PyData
  | .non => .none
  | .bl b => .bool b
  | .int i => .int i
  | .str s => .str s
  | .lst xs => .list (Dt.pyL xs)
  | .tup xs => .tuple (Dt.pyL xs)
  | _ => .none
def Dt.pyL : List Dt → List PyData
  | [] => []
  | d :: ds => d.py :: Dt.pyL ds
end
mutual
/-- no dicts, no objects within -/
def Dt.flat : Dt → Bool
  | .non => true
  | .bl _ => true
  | .int _ => true
  | .str _ => true
  | .lst xs => Dt.flatL xs
  | .tup xs => Dt.flatL xs
  | _ => false
def Dt.flatL : List Dt → Bool
  | [] => true
  | d :: ds => d.flat && Dt.flatL ds
end
mutual
theorem Rep.dp {F H : Hp} (s : Sub F H) : ∀ {v : V} {d : Dt}, Rep K F v d → d.flat = true → Dp K H v d.py
  | _, _, .non, _ => .non
  | _, _, .bl b, _ => .bl b
  | _, _, .int i, _ => .int i
  | _, _, .str x _, _ => .str x
  | _, _, .lst h _ r, f => .lst (SqL.of (s.lst h)) (RepL.dp s r f)
  | _, _, .tup h _ r, f => .tup (SqT.of (s.tup h)) (RepL.dp s r f)
  | _, _, .scr _ _ _, f => nomatch f
  | _, _, .dic _ _ _ _, f => nomatch f
  | _, _, .dit _ _ _ _, f => nomatch f
  | _, _, .ins _ _, f => nomatch f
theorem RepL.dp {F H : Hp} (s : Sub F H) : ∀ {vs : List V} {ds : List Dt}, RepL K F vs ds → Dt.flatL ds = true → DpAll K H vs (Dt.pyL ds)
  | _, _, .nil, _ => .nil
  | _, _, .cons h r, f => .cons (Rep.dp s h (Bool.and_eq_true_iff.mp f).1) (RepL.dp s r (Bool.and_eq_true_iff.mp f).2)
end
mutual
theorem Rep.lay {F : Hp} : ∀ {v : V} {d : Dt}, Rep K F v d → d.flat = true → d.py.canLay0 = true
  | _, _, .non, _ => by simp [Dt.py, PyData.canLay0]
  | _, _, .bl b, _ => by simp [Dt.py, PyData.canLay0]
  | _, _, .int i, _ => by simp [Dt.py, PyData.canLay0]
  | _, _, .str x g, _ => by simp only [Dt.py, PyData.canLay0]; exact good_strOk g
  | _, _, .lst h _ r, f => by simp only [Dt.py, PyData.canLay0]; exact RepL.lay r f
  | _, _, .tup h _ r, f => by simp only [Dt.py, PyData.canLay0]; exact RepL.lay r f
  | _, _, .scr _ _ _, f => nomatch f
  | _, _, .dic _ _ _ _, f => nomatch f
  | _, _, .dit _ _ _ _, f => nomatch f
  | _, _, .ins _ _, f => nomatch f
theorem RepL.lay {F : Hp} : ∀ {vs : List V} {ds : List Dt}, RepL K F vs ds → Dt.flatL ds = true → PyData.canLayAll0 (Dt.pyL ds) = true
  | _, _, .nil, _ => by simp [Dt.pyL, PyData.canLayAll0]
  | _, _, .cons h r, f => by
    simp only [Dt.pyL, PyData.canLayAll0]
    exact Bool.and_eq_true_iff.mpr ⟨Rep.lay h (Bool.and_eq_true_iff.mp f).1, RepL.lay r (Bool.and_eq_true_iff.mp f).2⟩
end
/-- two data are compared: equal by c -/
structure EqD (x y : Dt) (c : Bool) : Prop where
  fx : x.flat = true
  fy : y.flat = true
  dx : x.py.depth ≤ 64
  dy : y.py.depth ≤ 64
  eq : PyData.eqv x.py y.py = c
theorem EqD.shx {F : Hp} {x y : Dt} {c : Bool} (e : EqD x y c) {v : V} (r : Rep K F v x) : SeqAt.shaped x.py = true := Bool.and_eq_true_iff.mpr ⟨r.lay e.fx, decide_eq_true e.dx⟩
theorem EqD.shy {F : Hp} {x y : Dt} {c : Bool} (e : EqD x y c) {v : V} (r : Rep K F v y) : SeqAt.shaped y.py = true := Bool.and_eq_true_iff.mpr ⟨r.lay e.fy, decide_eq_true e.dy⟩
theorem says_eqD {x y : Dt} {c : Bool} (hu : ∀ j, (X j).A.units + 64 < cLine) (hK : ∀ j, (X j).K = K) (e : EqD x y c) : Says X K .Eq x y c := ⟨rEqD K, fun j => hK j ▸ op_eqD (hu j), fun F H v w Q u r1 r2 q =>
  ⟨x.py, y.py, r1.dp u e.fx, r2.dp u e.fy, e.shx r1, e.shy r2, by rw [e.eq]; exact q⟩⟩
theorem says_neD {x y : Dt} {c : Bool} (hu : ∀ j, (X j).A.units + 64 < cLine) (hK : ∀ j, (X j).K = K) (e : EqD x y c) : Says X K .NotEq x y (!c) := ⟨rNeD K, fun j => hK j ▸ op_neD (hu j), fun F H v w Q u r1 r2 q =>
  ⟨x.py, y.py, r1.dp u e.fx, r2.dp u e.fy, e.shx r1, e.shy r2, by rw [e.eq]; exact q⟩⟩

/-! ### tests -/
theorem eb_val {e : Expr} {b : Bool} (h : EX X K G e (.bl b)) (he : ∀ j whole, isTrue e (X j).env whole = (do let v ← whole; standAt e.pos; holding [v] (truthy v)) := by intro _ _; rfl) : EB X K G e b := fun F H σ fps Q k q =>
  ⟨tB (wpE X e), fun j => pt_val (pe_wp j) (he j), h F H σ fps _ k fun F1 H1 v u r => by cases r; exact ⟨b, rfl, q F1 H1 u⟩⟩
theorem eb_not {e : Expr} {b : Bool} {pos : Pos} (h : EB X K G e b) : EB X K G (.UnaryOp .Not e pos) (!b) := fun F H σ fps Q k q =>
  ⟨tNot (wpT X e), fun j => pt_not (pt_wp j), h F H σ fps _ k fun F1 H1 u => q F1 H1 u⟩
theorem ebw_and1 {a : Expr} {b : Bool} {pos : Pos} (h : EB X K G a b) : EBW X K G (.BoolOp .And [a] pos) b := fun F H σ fps Q k q =>
  ⟨wpT X a, fun j => pw_and1 (pt_wp j), h F H σ fps _ k q⟩
theorem ebw_or1 {a : Expr} {b : Bool} {pos : Pos} (h : EB X K G a b) : EBW X K G (.BoolOp .Or [a] pos) b := fun F H σ fps Q k q =>
  ⟨wpT X a, fun j => pw_or1 (pt_wp j), h F H σ fps _ k q⟩
theorem ebw_and {a e : Expr} {rest : List Expr} {x y : Bool} {pos : Pos} (h : EB X K G a x) (hr : x = true → EBW X K G (.BoolOp .And (e :: rest) pos) y) : EBW X K G (.BoolOp .And (a :: e :: rest) pos) (x && y) := fun F H σ fps Q k q =>
  ⟨tAnd (wpT X a) (wpW X (.BoolOp .And (e :: rest) pos)), fun j => pw_and (pt_wp j) (pw_wp j), h F H σ fps _ k fun F1 H1 u => by
    cases x with
    | true =>
      show wpW X _ σ H1 Q
      exact hr rfl F1 H1 σ fps Q (k.up u) fun F2 H2 u2 => q F2 H2 (u.trans u2)
    | false =>
      show Q false H1
      exact q F1 H1 u⟩
theorem ebw_or {a e : Expr} {rest : List Expr} {x y : Bool} {pos : Pos} (h : EB X K G a x) (hr : x = false → EBW X K G (.BoolOp .Or (e :: rest) pos) y) : EBW X K G (.BoolOp .Or (a :: e :: rest) pos) (x || y) := fun F H σ fps Q k q =>
  ⟨tOr (wpT X a) (wpW X (.BoolOp .Or (e :: rest) pos)), fun j => pw_or (pt_wp j) (pw_wp j), h F H σ fps _ k fun F1 H1 u => by
    cases x with
    | true =>
      show Q true H1
      exact q F1 H1 u
    | false =>
      show wpW X _ σ H1 Q
      exact hr rfl F1 H1 σ fps Q (k.up u) fun F2 H2 u2 => q F2 H2 (u.trans u2)⟩
theorem eb_w {e : Expr} {b : Bool} (h : EBW X K G e b) : EB X K G e b := fun F H σ fps Q k q =>
  ⟨wpW X e, fun j => (pw_wp j).pt, h F H σ fps Q k q⟩
theorem ex_not {e : Expr} {b : Bool} {pos : Pos} (h : EX X K G e (.bl b)) : EX X K G (.UnaryOp .Not e pos) (.bl (!b)) := fun F H σ fps Q k q =>
  ⟨tNotV (wpE X e), fun j => pe_not (pe_wp j), h F H σ fps _ k fun F1 H1 v u r => by cases r; exact ⟨b, rfl, q F1 H1 _ u (.bl _)⟩⟩
theorem ex_one {a : Expr} {op} {d : Dt} {pos : Pos} (h : EX X K G a d) : EX X K G (.BoolOp op [a] pos) d := fun F H σ fps Q k q =>
  ⟨wpE X a, fun j => pe_one (pe_wp j), h F H σ fps _ k q⟩
theorem ex_and {a e : Expr} {rest : List Expr} {x y : Bool} {pos : Pos} (h : EX X K G a (.bl x)) (hr : x = true → EX X K G (.BoolOp .And (e :: rest) pos) (.bl y)) : EX X K G (.BoolOp .And (a :: e :: rest) pos) (.bl (x && y)) := fun F H σ fps Q k q =>
  ⟨tAndV (wpE X a) (wpE X (.BoolOp .And (e :: rest) pos)), fun j => pe_and (pe_wp j) (pe_wp j), h F H σ fps _ k fun F1 H1 v u r => by
    cases r
    refine ⟨x, rfl, ?_⟩
    cases x with
    | true =>
      show wpE X _ σ H1 Q
      exact hr rfl F1 H1 σ fps Q (k.up u) fun F2 H2 v u2 => q F2 H2 v (u.trans u2)
    | false =>
      show Q (.bl false) H1
      exact q F1 H1 _ u (.bl _)⟩
theorem ex_or {a e : Expr} {rest : List Expr} {x y : Bool} {pos : Pos} (h : EX X K G a (.bl x)) (hr : x = false → EX X K G (.BoolOp .Or (e :: rest) pos) (.bl y)) : EX X K G (.BoolOp .Or (a :: e :: rest) pos) (.bl (x || y)) := fun F H σ fps Q k q =>
  ⟨tOrV (wpE X a) (wpE X (.BoolOp .Or (e :: rest) pos)), fun j => pe_or (pe_wp j) (pe_wp j), h F H σ fps _ k fun F1 H1 v u r => by
    cases r
    refine ⟨x, rfl, ?_⟩
    cases x with
    | true =>
      show Q (.bl true) H1
      exact q F1 H1 _ u (.bl _)
    | false =>
      show wpE X _ σ H1 Q
      exact hr rfl F1 H1 σ fps Q (k.up u) fun F2 H2 v u2 => q F2 H2 v (u.trans u2)⟩
theorem EX.is {e : Expr} {d d' : Dt} (h : EX X K G e d) (q : d = d') : EX X K G e d' := q ▸ h
theorem EB.is {e : Expr} {d d' : Bool} (h : EB X K G e d) (q : d = d') : EB X K G e d' := q ▸ h

/-! ### new lists, tuples -/
theorem RepL.len {F : Hp} : ∀ {vs : List V} {ds : List Dt}, RepL K F vs ds → vs.length = ds.length
  | _, _, .nil => rfl
  | _, _, .cons _ r => congrArg (· + 1) (RepL.len r)
theorem RepL.get {F : Hp} : ∀ {vs : List V} {ds : List Dt}, RepL K F vs ds → ∀ {i : Nat} {d : Dt}, ds[i]? = some d → ∃ v, vs[i]? = some v ∧ Rep K F v d
  | _, _, .nil, i, d, h => by simp at h
  | _, _, .cons (v := v) h r, 0, d, e => by
    simp at e; subst e
    exact ⟨v, rfl, h⟩
  | _, _, .cons h r, i + 1, d, e => by
    obtain ⟨v, h1, h2⟩ := RepL.get r (i := i) (d := d) (by simpa using e)
    exact ⟨v, by simpa using h1, h2⟩
theorem RepL.get' {F : Hp} : ∀ {vs : List V} {ds : List Dt}, RepL K F vs ds → ∀ {i : Nat} {v : V}, vs[i]? = some v → ∃ d, ds[i]? = some d ∧ Rep K F v d
  | _, _, .nil, i, d, h => by simp at h
  | _, _, .cons (d := d) h r, 0, v, e => by
    simp at e; subst e
    exact ⟨d, rfl, h⟩
  | _, _, .cons h r, i + 1, d, e => by
    obtain ⟨v, h1, h2⟩ := RepL.get' r (i := i) (v := d) (by simpa using e)
    exact ⟨v, by simpa using h1, h2⟩
theorem RepL.append {F : Hp} : ∀ {vs ws : List V} {ds es : List Dt}, RepL K F vs ds → RepL K F ws es → RepL K F (vs ++ ws) (ds ++ es)
  | _, _, _, _, .nil, s => s
  | _, _, _, _, .cons h r, s => .cons h (RepL.append r s)
theorem RepL.take {F : Hp} : ∀ {vs : List V} {ds : List Dt} (n : Nat), RepL K F vs ds → RepL K F (vs.take n) (ds.take n)
  | _, _, 0, _ => .nil
  | _, _, _ + 1, .nil => .nil
  | _, _, n + 1, .cons h r => .cons h (RepL.take n r)
theorem RepL.drop {F : Hp} : ∀ {vs : List V} {ds : List Dt} (n : Nat), RepL K F vs ds → RepL K F (vs.drop n) (ds.drop n)
  | _, _, 0, r => r
  | _, _, _ + 1, .nil => .nil
  | _, _, n + 1, .cons _ r => RepL.drop n r
theorem en_lst {es : List Expr} {pos : Pos} {ds : List Dt} (h : EA X K G es ds) (hl : ds.length ≤ big := by decide) : EN X K G (.List es pos) (.ol ds) := fun F H σ fps Q k q =>
  ⟨tLst (wpA X es), fun j => pe_lst (pa_wp j), h F H σ fps _ k fun F1 H1 vs u r => ⟨by rw [r.len]; exact Nat.le_trans hl big_line, fun p hp => by
    have n0 : H p = none := u.hp.free hp
    refine q F1 (upd H1 p (.lst vs)) (.ref p) [p] (u.trans (Up.layH u.sb hp)) (.ol upd_same (by rw [r.len]; exact hl) r) fun a ha => ?_
    obtain rfl : a = p := by simpa using ha
    exact ⟨n0, u.sb.none hp, by rw [upd_same]; simp⟩⟩⟩
theorem ex_tup {es : List Expr} {x1} {pos : Pos} {ds : List Dt} (h : EA X K G es ds) (hl : ds.length ≤ big := by decide) : EX X K G (.Tuple es x1 pos) (.tup ds) := fun F H σ fps Q k q =>
  ⟨tTup (wpA X es), fun j => pe_tup (pa_wp j), h F H σ fps _ k fun F1 H1 vs u r => ⟨by rw [r.len]; exact Nat.le_trans hl big_line, fun p hp =>
    q (upd F1 p (.tup vs)) (upd H1 p (.tup vs)) (.ref p) (u.trans (Up.lay u.sb hp)) (.tup upd_same (by rw [r.len]; exact hl) (r.mono (Ex.new (u.sb.none hp))))⟩⟩
/-- a new list is frozen -/
theorem EN.fz {e : Expr} {ds : List Dt} (h : EN X K G e (.ol ds)) : EX X K G e (.lst ds) := fun F H σ fps Q k q =>
  h F H σ fps Q k fun F1 H1 v fp u r n => by
    obtain ⟨p, vs, rfl, rfl, h1, l, r⟩ := r.ol_inv
    obtain ⟨n1, n2, n3⟩ := n p (by simp)
    refine q (upd F1 p (.lst vs)) H1 (.ref p) ⟨u.fr.trans (Ex.new n2), u.hp, fun a z z' => ?_, fun a o z => ?_⟩ (.lst upd_same l (r.mono (Ex.new n2)))
    · have hne : a ≠ p := fun e => by subst e; exact z' n1
      rw [upd_ne hne]
      exact u.nw a z z'
    · by_cases e : a = p
      · subst e
        rw [upd_same] at z; cases z
        exact .inl h1
      · rw [upd_ne e] at z
        exact u.sb a o z
theorem EN.fzd {e : Expr} {ds : List (Key × Dt)} (h : EN X K G e (.od ds)) : EX X K G e (.dic ds) := fun F H σ fps Q k q =>
  h F H σ fps Q k fun F1 H1 v fp u r n => by
    obtain ⟨p, vs, rfl, rfl, h1, l, r, nd⟩ := r.od_inv
    obtain ⟨n1, n2, n3⟩ := n p (by simp)
    refine q (upd F1 p (.dK vs)) H1 (.ref p) ⟨u.fr.trans (Ex.new n2), u.hp, fun a z z' => ?_, fun a o z => ?_⟩ (.dic upd_same l (r.mono (Ex.new n2)) nd)
    · have hne : a ≠ p := fun e => by subst e; exact z' n1
      rw [upd_ne hne]
      exact u.nw a z z'
    · by_cases e : a = p
      · subst e
        rw [upd_same] at z; cases z
        exact .inl h1
      · rw [upd_ne e] at z
        exact u.sb a o z
theorem EX.en {e : Expr} {d : Dt} (h : EX X K G e d) : EN X K G e (.fz d) := fun F H σ fps Q k q =>
  h F H σ fps Q k fun F1 H1 v u r => q F1 H1 v [] u (.fz r) fun a ha => by simp at ha

/-! ### what is seen: a list or tuple, frozen or own -/
/-- e gives a list (a tuple) of these, own or frozen -/
def ES (X : I → Cx) (K : PySem.W.Frag) (G : Env) (e : Expr) (tu : Bool) (ds : List Dt) : Prop :=
  ∀ F H σ fps (Q : VK), EnvOk K F H σ G fps → (∀ F' H' p vs, Up F H F' H' → (if tu then SqT K H' p vs else SqL K H' p vs) → vs.length ≤ big → RepL K F' vs ds → Q (.ref p) H') → wpE X e σ H Q
theorem EX.esL {e : Expr} {ds : List Dt} (h : EX X K G e (.lst ds)) : ES X K G e false ds := fun F H σ fps Q k q =>
  h F H σ fps Q k fun F1 H1 v u r => by
    cases r with
    | lst h1 l r => exact q F1 H1 _ _ u (SqL.of (u.sb.lst h1)) l r
theorem EX.esT {e : Expr} {ds : List Dt} (h : EX X K G e (.tup ds)) : ES X K G e true ds := fun F H σ fps Q k q =>
  h F H σ fps Q k fun F1 H1 v u r => by
    cases r with
    | tup h1 l r => exact q F1 H1 _ _ u (SqT.of (u.sb.tup h1)) l r
theorem EX.esS {e : Expr} {ds : List Dt} (h : EX X K G e (.scr ds)) : ES X K G e false ds := fun F H σ fps Q k q =>
  h F H σ fps Q k fun F1 H1 v u r => by
    cases r with
    | scr h1 l r => exact q F1 H1 _ _ u (u.sb.sql h1) l r
theorem EN.es {e : Expr} {ds : List Dt} (h : EN X K G e (.ol ds)) : ES X K G e false ds := fun F H σ fps Q k q =>
  h F H σ fps Q k fun F1 H1 v fp u r n => by
    obtain ⟨p, vs, rfl, rfl, h1, l, r⟩ := r.ol_inv
    exact q F1 H1 p vs u (SqL.of h1) l r
/-- an own list by its name -/
theorem es_var {i : Nat} {x : Str} {pos : Pos} {ds : List Dt} (hg : G[i]? = some (some (.ol ds))) (hN : ∀ j, (X j).N[i]? = some x) (hv : ∀ j, Vis (X j).env.scope x)
    (hd : (x == ("__debug__" : Str)) = false := by decide) (hcd : (x == ("__classdict__" : Str)) = false := by decide) : ES X K G (.Name x pos) false ds := fun F H σ fps Q e q => by
  obtain ⟨v, h1, r0⟩ := e.ent i _ hg
  obtain ⟨p, vs, rfl, _, h2, l, r⟩ := r0.ol_inv
  exact ⟨tVar i, fun j => pe_var (hN j) (hv j) hd hcd, _, h1, q F H p vs (Up.refl e.sub) (SqL.of h2) l r⟩

/-! ### len, items -/
theorem ex_lenS {e : Expr} {p pos : Pos} {s : Str} (h : EX X K G e (.str s)) (hg : ∀ j, Gl (X j) "len") (hm : ∀ j, (X j).mg "len" = none)
    (he : ∀ j, starEach [e] (X j).env = [(false, eval e (X j).env)] := by intro _; rfl) : EX X K G (.Call (.Name "len" p) [e] [] pos) (.int s.length) := fun F H σ fps Q k q =>
  ⟨tCB (fun xs H Q => ∃ x, xs = [V.str x] ∧ x.length ≤ sizeLine ∧ Q (.int x.length) H) (tCons (wpE X e) tNil), fun j => pe_callB call_len_str (hg j) (hm j) PySem.boot_len (pa_cons (pe_wp j) pa_nil (he j)) (by decide) (by decide) (he j) rfl, h F H σ fps _ k fun F1 H1 v u r => by
    cases r with
    | str _ l => exact ⟨s, rfl, good_line l, q F1 H1 _ u (.int _)⟩⟩
end
section
variable {I : Type} {X : I → Cx} {K : PySem.W.Frag} {G : Env}
theorem ex_len {e : Expr} {p pos : Pos} {tu : Bool} {ds : List Dt} (hK : ∀ j, (X j).K = K) (h : ES X K G e tu ds) (hg : ∀ j, Gl (X j) "len") (hm : ∀ j, (X j).mg "len" = none)
    (he : ∀ j, starEach [e] (X j).env = [(false, eval e (X j).env)] := by intro _; rfl) : EX X K G (.Call (.Name "len" p) [e] [] pos) (.int ds.length) := fun F H σ fps Q k q =>
  ⟨tCB (fun xs H Q => ∃ x n, xs = [x] ∧ LenV K x H n ∧ Q (.int n) H) (tCons (wpE X e) tNil), fun j => hK j ▸ pe_callB call_len (hg j) (hm j) PySem.boot_len (pa_cons (pe_wp j) pa_nil (he j)) (by decide) (by decide) (he j) rfl, h F H σ fps _ k fun F1 H1 p vs u r l rl => by
    refine ⟨_, ds.length, rfl, ?_, q F1 H1 _ u (.int _)⟩
    cases tu with
    | true => exact .inr ⟨vs, r, rl.len.symm⟩
    | false => exact .inl ⟨vs, r, rl.len.symm⟩⟩
theorem ex_ix {a b : Expr} {pos : Pos} {tu : Bool} {ds : List Dt} {i : Int} {d : Dt} (hK : ∀ j, (X j).K = K) (ha : ES X K G a tu ds) (hb : EX X K G b (.int i)) (hi : atI ds i = some d) (hs : PlainIx b := by exact fun _ _ => rfl) : EX X K G (.Subscript a b pos) d := fun F H σ fps Q k q =>
  ⟨tOp (fun x y H Q => rIxL K x y H Q ∨ rIxT K x y H Q) (wpE X a) (wpE X b), fun j => by
    have h1 : IxR (X j) (rIxL K) := hK j ▸ ix_list
    have h2 : IxR (X j) (rIxT K) := hK j ▸ ix_tup
    exact pe_ix (fun v s pins st σ H x y vv uu Q I r1 r2 h w => h.elim (fun h => h1 v s pins st σ H x y vv uu Q I r1 r2 h w) fun h => h2 v s pins st σ H x y vv uu Q I r1 r2 h w) (pe_wp j) (pe_wp j) hs,
   ha F H σ fps _ k fun F1 H1 p vs u r l rl => hb F1 H1 σ fps _ (k.up u) fun F2 H2 w u2 r2 => by
    cases r2
    have hv : ∃ v, atI vs i = some v ∧ Rep K F1 v d := by
      unfold atI at hi ⊢
      rw [rl.len]
      cases e : ixN ds.length i with
      | none => rw [e] at hi; cases hi
      | some j =>
        rw [e] at hi
        exact rl.get (show ds[j]? = some d from hi)
    obtain ⟨v, h1, h2⟩ := hv
    cases tu with
    | true => exact .inr ⟨p, vs, i, v, rfl, rfl, u2.hp.sqt r, h1, q F2 H2 v (u.trans u2) (h2.mono u2.fr)⟩
    | false => exact .inl ⟨p, vs, i, v, rfl, rfl, u2.hp.sql r, h1, q F2 H2 v (u.trans u2) (h2.mono u2.fr)⟩⟩
/-- the sign at a place -/
theorem ex_ixS {a b : Expr} {pos : Pos} {s : Str} {i : Int} {c : Nat} (ha : EX X K G a (.str s)) (hb : EX X K G b (.int i)) (hi : atI s.cps.toList i = some c) (hs : PlainIx b := by exact fun _ _ => rfl) : EX X K G (.Subscript a b pos) (.str ⟨#[c]⟩) := fun F H σ fps Q k q =>
  ⟨tOp rIxS (wpE X a) (wpE X b), fun j => pe_ix ix_str (pe_wp j) (pe_wp j) hs, ha F H σ fps _ k fun F1 H1 v u r => hb F1 H1 σ fps _ (k.up u) fun F2 H2 w u2 r2 => by
    cases r2
    cases r with
    | str _ l =>
      have hm : c ∈ s.cps.toList := by
        unfold atI at hi
        cases e : ixN s.cps.toList.length i with
        | none => rw [e] at hi; cases hi
        | some j => rw [e] at hi; exact List.mem_of_getElem? (show s.cps.toList[j]? = some c from hi)
      exact ⟨s, i, c, rfl, rfl, good_line l, hi, q F2 H2 _ (u.trans u2) (.str _ (good_one ((good_iff.mp l).2 c hm)))⟩⟩
end
end Vs

/-! Statements over data: outcomes, loops, calls, a def's promise. -/
namespace Vs
open PySem PySem.Spec L2

structure Xc where
  cls : Str
  fs : List (Str × Dt)
inductive Out where
  | nx (G : Env) | bk (G : Env) | ct (G : Env)
  | rt (c : Cell) (s : Option Env)
  | xc (x : Xc) (G : Env)

/-- the names that keep their values to the end -/
structure Sv where
  ks : List Nat
  vl : Nat → V
def memN : List Nat → Nat → Bool
  | [], _ => false
  | a :: l, i => Nat.beq a i || memN l i
def memN_iff {l : List Nat} {i : Nat} : memN l i = true ↔ i ∈ l := by
  induction l with
  | nil => simp [memN]
  | cons a l ih =>
    unfold memN
    rw [Bool.or_eq_true, ih, List.mem_cons]
    constructor
    · rintro (h | h)
      · exact .inl (Nat.eq_of_beq_eq_true h).symm
      · exact .inr h
    · rintro (h | h)
      · exact .inl (by rw [h]; exact Nat.beq_refl _)
      · exact .inr h
def noneIn (l : List Nat) : List Nat → Bool
  | [] => true
  | i :: js => !memN l i && noneIn l js
theorem noneIn_ok {l : List Nat} : ∀ {js : List Nat}, noneIn l js = true → ∀ i, i ∈ l → i ∉ js
  | [], _, i, _, z => nomatch z
  | j :: js, h, i, hi, z => by
    unfold noneIn at h
    rw [Bool.and_eq_true] at h
    rcases List.mem_cons.mp z with e | z
    · subst e
      rw [memN_iff.mpr hi] at h
      exact absurd h.1 (by decide)
    · exact noneIn_ok h.2 i hi z
abbrev sv0 : Sv := ⟨[], fun _ => .non⟩
def Slf (sv : Sv) (σ : L2.St) : Prop := ∀ i, i ∈ sv.ks → σ[i]? = some (some (sv.vl i))
def XRep (K : PySem.W.Frag) (F : Hp) (d : Option Addr) (fs : List (Str × Dt)) : Prop := (fs = [] ∧ d = none) ∨ ∃ dx vs, d = some dx ∧ F dx = some (.xd vs) ∧ RepF K F vs fs

def Fin (K : PySem.W.Frag) (W : WX) (sv : Sv) (D : Ends) (F H : Hp) (fps : Nat → List Addr) : Out → Prop
  | .nx G => ∀ F' H' σ' fps', EnvOk K F' H' σ' G fps' → Slf sv σ' → Le (Owns fps) F H F' H' (Owns fps') → D.nx σ' H'
  | .bk G => ∀ F' H' σ' fps', EnvOk K F' H' σ' G fps' → Slf sv σ' → Le (Owns fps) F H F' H' (Owns fps') → D.bk σ' H'
  | .ct G => ∀ F' H' σ' fps', EnvOk K F' H' σ' G fps' → Slf sv σ' → Le (Owns fps) F H F' H' (Owns fps') → D.ct σ' H'
  | .rt c none => ∀ F' H' v fp, Sub F' H' → Le (Owns fps) F H F' H' (fun a => a ∈ fp) → RepC K F' H' fp v c → (∀ a ∈ fp, F' a = none ∧ H' a ≠ none) → D.rt v H'
  | .rt c (some G) => ∀ F' H' σ' fps' v fp, EnvOk K F' H' σ' G fps' → Slf sv σ' → Le (Owns fps) F H F' H' (fun a => a ∈ fp ∨ Owns fps' a) → RepC K F' H' fp v c → (∀ a ∈ fp, F' a = none ∧ H' a ≠ none ∧ ¬ Owns fps' a) → D.rt v H'
  | .xc x G => ∀ F' H' σ' fps' d, EnvOk K F' H' σ' G fps' → Slf sv σ' → Le (Owns fps) F H F' H' (Owns fps') → XRep K F' d x.fs → W (.ref (He.ga K x.cls)) d σ' H'
theorem Fin.le {K : PySem.W.Frag} {W : WX} {sv : Sv} {D : Ends} {F H F1 H1 : Hp} {fps fps1 : Nat → List Addr} : ∀ {o : Out}, Fin K W sv D F H fps o → Le (Owns fps) F H F1 H1 (Owns fps1) → Fin K W sv D F1 H1 fps1 o
  | .nx _, h, l => fun F' H' σ' fps' e s l' => h F' H' σ' fps' e s (l.trans l')
  | .bk _, h, l => fun F' H' σ' fps' e s l' => h F' H' σ' fps' e s (l.trans l')
  | .ct _, h, l => fun F' H' σ' fps' e s l' => h F' H' σ' fps' e s (l.trans l')
  | .rt _ none, h, l => fun F' H' v fp s l' r n => h F' H' v fp s (l.trans l') r n
  | .rt _ (some _), h, l => fun F' H' σ' fps' v fp e s l' r n => h F' H' σ' fps' v fp e s (l.trans l') r n
  | .xc _ _, h, l => fun F' H' σ' fps' d e s l' r => h F' H' σ' fps' d e s (l.trans l') r

/-- ss from G ends as o -/
def Run (X : Cx) (K : PySem.W.Frag) (W : WX) (sv : Sv) (ss : List Stmt) (G : Env) (o : Out) : Prop :=
  ∀ F H σ fps (D : Ends), EnvOk K F H σ G fps → Slf sv σ → Fin K W sv D F H fps o → wpSs X ss D σ H

abbrev one (X : Cx) : Unit → Cx := fun _ => X
theorem pe_w1 {X : Cx} {e : Expr} : PE X e (wpE (one X) e) := pe_wp (X := one X) ()
theorem pt_w1 {X : Cx} {e : Expr} : PT X e (wpT (one X) e) := pt_wp (X := one X) ()
theorem pa_w1 {X : Cx} {es : List Expr} : PA X es (wpA (one X) es) := pa_wp (X := one X) ()

/-! ### a name gets a cell -/
theorem EnvOk.set {K : PySem.W.Frag} {F H : Hp} {σ : L2.St} {G : Env} {fps : Nat → List Addr} {i : Nat} {v : V} {fp : List Addr} {c : Cell} (e : EnvOk K F H σ G fps) (hi : i < G.length) (r : RepC K F H fp v c) (n : ∀ a ∈ fp, F a = none ∧ H a ≠ none) (d : ∀ a ∈ fp, ∀ j, j ≠ i → a ∉ fps j) :
    EnvOk K F H (σ.set i (some v)) (G.set i (some c)) (put fps i fp) := by
  refine ⟨e.sub, by rw [List.length_set, List.length_set, e.len], fun j c' h => ?_, fun j a h => ?_, fun j k a h h' => ?_, e.tab⟩
  · by_cases hj : j = i
    · subst hj
      rw [List.getElem?_set_self hi] at h
      cases h
      refine ⟨v, ?_, ?_⟩
      · rw [List.getElem?_set_self (by rw [e.len]; exact hi)]
      · rw [put_same]; exact r
    · rw [List.getElem?_set_ne (fun z => hj z.symm)] at h
      obtain ⟨w, h1, h2⟩ := e.ent j c' h
      exact ⟨w, by rw [List.getElem?_set_ne (fun z => hj z.symm)]; exact h1, by rw [put_ne hj]; exact h2⟩
  · by_cases hj : j = i
    · subst hj
      rw [put_same] at h
      exact n a h
    · rw [put_ne hj] at h
      exact e.own j a h
  · by_cases hj : j = i
    · subst hj
      rw [put_same] at h
      by_cases hk : k = j
      · exact hk.symm
      · rw [put_ne hk] at h'
        exact absurd h' (d a h k hk)
    · rw [put_ne hj] at h
      by_cases hk : k = i
      · subst hk
        rw [put_same] at h'
        exact absurd h (d a h' j hj)
      · rw [put_ne hk] at h'
        exact e.dis j k a h h'
theorem owns_put {fps : Nat → List Addr} {i : Nat} {fp : List Addr} {a : Addr} (h : Owns (put fps i fp) a) : a ∈ fp ∨ Owns fps a := by
  obtain ⟨j, h⟩ := h
  by_cases hj : j = i
  · subst hj; rw [put_same] at h; exact .inl h
  · rw [put_ne hj] at h; exact .inr ⟨j, h⟩
theorem Slf.set {sv : Sv} {σ : L2.St} {i : Nat} {o : Option V} (s : Slf sv σ) (h : memN sv.ks i = false) : Slf sv (σ.set i o) := fun j e => by
  have hne : i ≠ j := fun z => by subst z; rw [memN_iff.mpr e] at h; cases h
  rw [List.getElem?_set_ne hne]; exact s j e
/-- what follows an up-step and a name's new cell -/
theorem Up.leSet {F H F1 H1 : Hp} {fps : Nat → List Addr} {i : Nat} {fp : List Addr} (u : Up F H F1 H1) (n : ∀ a ∈ fp, H a = none) : Le (Owns fps) F H F1 H1 (Owns (put fps i fp)) :=
  ⟨u.fr, u.hp.imp fun _ z => z.elim, fun a _ h h' => u.nw a h h', fun a h => (owns_put h).elim (fun z => .inr (n a z)) .inl⟩

section
variable {X : Cx} {K : PySem.W.Frag} {W : WX} {sv : Sv} {G : Env} {rest : List Stmt} {o : Out} {pos : Pos}
theorem run_asgN {i : Nat} {x : Str} {e : Expr} {c : Cell} {pos' : Pos} (h : EN (one X) K G e c) (hN : X.N.Nodup) (hi : X.N[i]? = some x) (hx : Loc X.env.scope x) (hl : i < G.length) (hv : memN sv.ks i = false) (k : Run X K W sv rest (G.set i (some c)) o)
    (hs : swapsWith e (some (.Name x pos')) pos.line X.env = pure false := by rfl) (hf : X.fn x = true ∨ X.env.scope.names.lookup x = some .local := by first | exact .inl rfl | exact .inr rfl | assumption) :
    Run X K W sv (.Assign [.Name x pos'] e pos :: rest) G o := fun F H σ fps D E s q =>
  ⟨tSeq (tAsg (wpE (one X) e) (gName i)) (wpSs X rest), pss_cons (ps_set hN hi hx pe_w1 hs hf) pss_wp, h F H σ fps _ E fun F1 H1 v fp u r n => by
    have E1 : EnvOk K F1 H1 (σ.set i (some v)) (G.set i (some c)) (put fps i fp) := (E.up u).set hl r (fun a ha => ⟨(n a ha).2.1, (n a ha).2.2⟩) fun a ha j _ z => by
      have := (E.own j a z).2
      exact this (n a ha).1
    exact k F1 H1 _ _ D E1 (s.set hv) (q.le (u.leSet fun a ha => (n a ha).1))⟩
theorem run_asg {i : Nat} {x : Str} {e : Expr} {d : Dt} {pos' : Pos} (h : EX (one X) K G e d) (hN : X.N.Nodup) (hi : X.N[i]? = some x) (hx : Loc X.env.scope x) (hl : i < G.length) (hv : memN sv.ks i = false) (k : Run X K W sv rest (G.set i (some (.fz d))) o)
    (hs : swapsWith e (some (.Name x pos')) pos.line X.env = pure false := by rfl) (hf : X.fn x = true ∨ X.env.scope.names.lookup x = some .local := by first | exact .inl rfl | exact .inr rfl | assumption) :
    Run X K W sv (.Assign [.Name x pos'] e pos :: rest) G o := run_asgN h.en hN hi hx hl hv k hs hf
theorem run_retN {e : Expr} {c : Cell} (h : EN (one X) K G e c) : Run X K W sv (.Return (some e) pos :: rest) G (.rt c none) := fun F H σ fps D E s q =>
  ⟨tSeq (tRet (wpE (one X) e)) tNever, pss_cons (ps_ret pe_w1) pss_never, h F H σ fps _ E fun F1 H1 v fp u r n =>
    q F1 H1 v fp u.sb ⟨u.fr, u.hp.imp fun _ z => z.elim, fun a _ z z' => u.nw a z z', fun a z => .inr (n a z).1⟩ r fun a ha => ⟨(n a ha).2.1, (n a ha).2.2⟩⟩
theorem run_ret {e : Expr} {d : Dt} (h : EX (one X) K G e d) : Run X K W sv (.Return (some e) pos :: rest) G (.rt (.fz d) none) := run_retN h.en
theorem run_ret0 : Run X K W sv (.Return none pos :: rest) G (.rt (.fz .non) none) := fun F H σ fps D E s q =>
  ⟨tSeq tRetN tNever, pss_cons ps_retN pss_never, q F H .non [] E.sub ⟨Ex.refl F, ExO.refl _, fun a _ z z' => z, fun a z => by simp at z⟩ (.fz .non) fun a ha => by simp at ha⟩
/-- an own list is returned -/
theorem run_retV {i : Nat} {x : Str} {c : Cell} {pos' : Pos} (hg : G[i]? = some (some c)) (hN : X.N[i]? = some x) (hv : Vis X.env.scope x)
    (hd : (x == ("__debug__" : Str)) = false := by decide) (hcd : (x == ("__classdict__" : Str)) = false := by decide) : Run X K W sv (.Return (some (.Name x pos')) pos :: rest) G (.rt c none) := fun F H σ fps D E s q => by
  obtain ⟨v, h1, h2⟩ := E.ent i _ hg
  exact ⟨tSeq (tRet (tVar i)) tNever, pss_cons (ps_ret (pe_var hN hv hd hcd)) pss_never, v, h1, q F H v (fps i) E.sub ⟨Ex.refl F, ExO.refl _, fun a _ z z' => z, fun a z => .inl ⟨i, z⟩⟩ h2 fun a ha => E.own i a ha⟩
theorem run_drop {e : Expr} {d : Dt} (h : EX (one X) K G e d) (k : Run X K W sv rest G o) (hs : swapsWith e none pos.line X.env = pure false := by rfl) : Run X K W sv (.Expr e pos :: rest) G o := fun F H σ fps D E s q =>
  ⟨tSeq (tDrop (wpE (one X) e)) (wpSs X rest), pss_cons (ps_expr pe_w1 hs) pss_wp, h F H σ fps _ E fun F1 H1 v u r => k F1 H1 σ fps D (E.up u) s (q.le u.le)⟩
theorem run_pass (k : Run X K W sv rest G o) : Run X K W sv (.Pass pos :: rest) G o := fun F H σ fps D E s q =>
  ⟨tSeq tNext (wpSs X rest), pss_cons ps_pass pss_wp, k F H σ fps D E s q⟩
theorem run_doc {x j p} (k : Run X K W sv rest G o) : Run X K W sv (.Expr (.Constant (.str x) j p) pos :: rest) G o := fun F H σ fps D E s q =>
  ⟨tSeq tNext (wpSs X rest), pss_cons ps_doc pss_wp, k F H σ fps D E s q⟩
theorem run_break : Run X K W sv (.Break pos :: rest) G (.bk G) := fun F H σ fps D E s q =>
  ⟨tSeq tBreak tNever, pss_cons ps_break pss_never, q F H σ fps E s Le.refl⟩
theorem run_cont : Run X K W sv (.Continue pos :: rest) G (.ct G) := fun F H σ fps D E s q =>
  ⟨tSeq tCont tNever, pss_cons ps_continue pss_never, q F H σ fps E s Le.refl⟩

/-! ### what a block's end forgets -/
inductive Weak : Env → Env → Prop
  | nil : Weak [] []
  | keep {c : Option Cell} {G G' : Env} : Weak G G' → Weak (c :: G) (c :: G')
  | drop {c : Option Cell} {G G' : Env} : Weak G G' → Weak (c :: G) (none :: G')
theorem Weak.len : ∀ {G G' : Env}, Weak G G' → G.length = G'.length
  | _, _, .nil => rfl
  | _, _, .keep h => congrArg (· + 1) h.len
  | _, _, .drop h => congrArg (· + 1) h.len
theorem Weak.get : ∀ {G G' : Env}, Weak G G' → ∀ {i : Nat} {c : Cell}, G'[i]? = some (some c) → G[i]? = some (some c)
  | _, _, .nil, i, c, h => h
  | _, _, .keep w, 0, c, h => by simpa using h
  | _, _, .drop w, 0, c, h => by simp at h
  | _, _, .keep w, i + 1, c, h => by
    have := w.get (i := i) (c := c) (by simpa using h)
    simpa using this
  | _, _, .drop w, i + 1, c, h => by
    have := w.get (i := i) (c := c) (by simpa using h)
    simpa using this
theorem Weak.refl : ∀ G : Env, Weak G G
  | [] => .nil
  | _ :: G => .keep (Weak.refl G)
theorem Weak.ok {F H : Hp} {σ : L2.St} {G G' : Env} {fps : Nat → List Addr} (w : Weak G G') (e : EnvOk K F H σ G fps) : EnvOk K F H σ G' fps :=
  ⟨e.sub, by rw [e.len, w.len], fun i c h => e.ent i c (w.get h), e.own, e.dis, e.tab⟩
theorem run_end {G' : Env} (w : Weak G G') : Run X K W sv [] G (.nx G') := fun F H σ fps D E s q =>
  ⟨tNext, pss_nil, q F H σ fps (w.ok E) s Le.refl⟩
theorem run_weak {ss : List Stmt} {G' : Env} (w : Weak G G') (k : Run X K W sv ss G' o) : Run X K W sv ss G o := fun F H σ fps D E s q => k F H σ fps D (w.ok E) s q
theorem run_is {ss : List Stmt} {o' : Out} (k : Run X K W sv ss G o) (e : o = o') : Run X K W sv ss G o' := e ▸ k
theorem run_contW {G' : Env} (w : Weak G G') : Run X K W sv (.Continue pos :: rest) G (.ct G') := fun F H σ fps D E s q =>
  ⟨tSeq tCont tNever, pss_cons ps_continue pss_never, q F H σ fps (w.ok E) s Le.refl⟩
theorem run_breakW {G' : Env} (w : Weak G G') : Run X K W sv (.Break pos :: rest) G (.bk G') := fun F H σ fps D E s q =>
  ⟨tSeq tBreak tNever, pss_cons ps_break pss_never, q F H σ fps (w.ok E) s Le.refl⟩

/-- what stands at a place is frozen -/
theorem EnvOk.freeze {F H : Hp} {σ : L2.St} {G : Env} {fps : Nat → List Addr} {i : Nat} {π : List Nat} {c : Cell} {d : Dt} (E : EnvOk K F H σ G fps) (h : atG G i π = some c) (hd : c.data = some d) :
    ∃ (F' : Hp) (fps' : Nat → List Addr) (fpc : List Addr), EnvOk K F' H σ (updG G i π (.fz d)) fps' ∧ Ex F F' ∧ (∀ a, a ∉ fpc → F' a = F a) ∧ (∀ a, Owns fps a ↔ Owns fps' a ∨ a ∈ fpc) ∧ (∀ a ∈ fpc, F a = none ∧ F' a = H a) ∧ ∃ v, RepC K F H fpc v c := by
  obtain ⟨v, fpc, fps1, h1, r, E1, ow, ds⟩ := E.take h
  have n : ∀ a ∈ fpc, F a = none := fun a ha => (E.ownF ((ow a).mpr (.inr ha))).1
  have ex := frz_ex (H := H) n
  have E2 : EnvOk K (frz F H fpc) H σ (updG G i π (.hl v)) fps1 := E1.keep ex (frz_sub E1.sub) (ExO.refl (O := fun _ => False) _) (fun _ _ z => z) (fun a ha => by
    rw [frz_out fun z => ds a z ha]
    exact (E1.ownF ha).1) fun P h => by
    rw [frz_out (tab_out (E.tab P h).2 r.all)]
    exact (E.tab P h).1
  obtain ⟨fps2, E3, o3⟩ := E2.give (atG_upd h) (.fz (r.frozen ex (fun a ha => frz_in ha) hd)) (fun a ha => nomatch ha) (fun a ha => nomatch ha)
  rw [updG_upd] at E3
  exact ⟨_, fps2, fpc, E3, ex, fun a ha => frz_out ha, fun a => by rw [ow a, o3 a]; simp, fun a ha => ⟨n a ha, frz_in ha⟩, v, r⟩
theorem run_freezeP {ss : List Stmt} {i : Nat} {π : List Nat} {c : Cell} {d : Dt} (hg : atG G i π = some c) (hd : c.data = some d) (k : Run X K W sv ss (updG G i π (.fz d)) o) : Run X K W sv ss G o := fun F H σ fps D E s q => by
  obtain ⟨F', fps', fpc, E', ex, out, ow, _, _⟩ := E.freeze hg hd
  refine k F' H σ fps' D E' s (q.le ⟨ex, ExO.refl _, fun a ho z _ => ?_, fun a ha => .inl ((ow a).mpr (.inl ha))⟩)
  rw [out a fun y => ho ((ow a).mpr (.inr y))]; exact z
/-- an own list is frozen from here on -/
theorem run_freeze {ss : List Stmt} {i : Nat} {ds : List Dt} (hg : G[i]? = some (some (.ol ds))) (k : Run X K W sv ss (G.set i (some (.fz (.lst ds)))) o) : Run X K W sv ss G o :=
  run_freezeP (i := i) (π := []) (c := .ol ds) (d := .lst ds) (by unfold atG; rw [hg]; rfl) rfl (by unfold updG; rw [hg]; exact k)
/-- an own dict is frozen from here on -/
theorem run_freezeD {ss : List Stmt} {i : Nat} {ds : List (Key × Dt)} (hg : G[i]? = some (some (.od ds))) (k : Run X K W sv ss (G.set i (some (.fz (.dic ds)))) o) : Run X K W sv ss G o :=
  run_freezeP (i := i) (π := []) (c := .od ds) (d := .dic ds) (by unfold atG; rw [hg]; rfl) rfl (by unfold updG; rw [hg]; exact k)

/-! ### if -/
def NoNx (o : Out) : Prop := ∀ G, o ≠ .nx G
theorem Fin.ends {D D' : Ends} {F H : Hp} {fps : Nat → List Addr} (hb : D'.bk = D.bk) (hc : D'.ct = D.ct) (hr : D'.rt = D.rt) : ∀ {o : Out}, NoNx o → Fin K W sv D F H fps o → Fin K W sv D' F H fps o
  | .nx G, n, _ => absurd rfl (n G)
  | .bk _, _, h => fun F' H' σ' fps' e s l => by rw [hb]; exact h F' H' σ' fps' e s l
  | .ct _, _, h => fun F' H' σ' fps' e s l => by rw [hc]; exact h F' H' σ' fps' e s l
  | .rt _ none, _, h => fun F' H' v fp s l r n => by rw [hr]; exact h F' H' v fp s l r n
  | .rt _ (some _), _, h => fun F' H' σ' fps' v fp e s l r n => by rw [hr]; exact h F' H' σ' fps' v fp e s l r n
  | .xc _ _, _, h => h
theorem run_ifM {S T : Type} {c : Expr} {b : Bool} {thn els : List Stmt} (Gj : S → Env) (E : T → Out) (k : S → T) {r1 r2 : Sum S T} (hE : ∀ x, NoNx (E x)) (hc : EB (one X) K G c b)
    (h1 : b = true → Run X K W sv thn G (match r1 with | .inl s => .nx (Gj s) | .inr x => E x)) (h2 : b = false → Run X K W sv els G (match r2 with | .inl s => .nx (Gj s) | .inr x => E x))
    (hk : ∀ s, Run X K W sv rest (Gj s) (E (k s))) : Run X K W sv (.If c thn els pos :: rest) G (E (match (cond b r1 r2) with | .inl s => k s | .inr x => x)) := fun F H σ fps D Eo s q =>
  ⟨tSeq (tIfS (wpT (one X) c) (wpSs X thn) (wpSs X els)) (wpSs X rest), pss_cons (ps_if pt_w1 pss_wp pss_wp) pss_wp, hc F H σ fps _ Eo fun F1 H1 u => by
    have key : ∀ (r : Sum S T) (ss : List Stmt), Run X K W sv ss G (match r with | .inl s => .nx (Gj s) | .inr x => E x) → Fin K W sv D F H fps (E (match r with | .inl s => k s | .inr x => x)) →
        wpSs X ss { D with nx := wpSs X rest D } σ H1 := fun r ss hr q => by
      cases r with
      | inl z => exact hr F1 H1 σ fps _ (Eo.up u) s fun F' H' σ' fps' e' s' l' => hk z F' H' σ' fps' D e' s' (q.le (u.le.trans l'))
      | inr z => exact hr F1 H1 σ fps _ (Eo.up u) s (Fin.ends (D := D) (D' := { D with nx := wpSs X rest D }) (o := E z) rfl rfl rfl (hE z) (q.le u.le))
    cases b with
    | true => exact key r1 thn (h1 rfl) q
    | false => exact key r2 els (h2 rfl) q⟩
/-- a branch that doesn't fall through -/
theorem run_guard {T : Type} {c : Expr} {b : Bool} {thn : List Stmt} (E : T → Out) {x y : T} (hE : NoNx (E x)) (hc : EB (one X) K G c b) (h1 : b = true → Run X K W sv thn G (E x)) (h2 : b = false → Run X K W sv rest G (E y)) :
    Run X K W sv (.If c thn [] pos :: rest) G (E (cond b x y)) := fun F H σ fps D Eo s q =>
  ⟨tSeq (tIfS (wpT (one X) c) (wpSs X thn) tNext) (wpSs X rest), pss_cons (ps_if pt_w1 pss_wp pss_nil) pss_wp, hc F H σ fps _ Eo fun F1 H1 u => by
    cases b with
    | true => exact h1 rfl F1 H1 σ fps _ (Eo.up u) s (Fin.ends (D := D) (D' := { D with nx := wpSs X rest D }) (o := E x) rfl rfl rfl hE (q.le u.le))
    | false => exact h2 rfl F1 H1 σ fps D (Eo.up u) s (q.le u.le)⟩
/-- both branches end the block -/
theorem run_ifE {T : Type} {c : Expr} {b : Bool} {thn els : List Stmt} (E : T → Out) {x y : T} (hx : NoNx (E x)) (hy : NoNx (E y)) (hc : EB (one X) K G c b) (h1 : b = true → Run X K W sv thn G (E x)) (h2 : b = false → Run X K W sv els G (E y)) :
    Run X K W sv (.If c thn els pos :: rest) G (E (cond b x y)) := fun F H σ fps D Eo s q =>
  ⟨tSeq (tIfS (wpT (one X) c) (wpSs X thn) (wpSs X els)) tNever, pss_cons (ps_if pt_w1 pss_wp pss_wp) pss_never, hc F H σ fps _ Eo fun F1 H1 u => by
    cases b with
    | true => exact h1 rfl F1 H1 σ fps _ (Eo.up u) s (Fin.ends (D := D) (D' := { D with nx := tNever D }) (o := E x) rfl rfl rfl hx (q.le u.le))
    | false => exact h2 rfl F1 H1 σ fps _ (Eo.up u) s (Fin.ends (D := D) (D' := { D with nx := tNever D }) (o := E y) rfl rfl rfl hy (q.le u.le))⟩
/-- both branches fall through -/
theorem run_ifJ {S : Type} {c : Expr} {b : Bool} {thn els : List Stmt} (Gj : S → Env) {s1 s2 : S} (hc : EB (one X) K G c b) (h1 : b = true → Run X K W sv thn G (.nx (Gj s1))) (h2 : b = false → Run X K W sv els G (.nx (Gj s2)))
    (hk : Run X K W sv rest (Gj (cond b s1 s2)) o) : Run X K W sv (.If c thn els pos :: rest) G o := fun F H σ fps D Eo s q =>
  ⟨tSeq (tIfS (wpT (one X) c) (wpSs X thn) (wpSs X els)) (wpSs X rest), pss_cons (ps_if pt_w1 pss_wp pss_wp) pss_wp, hc F H σ fps _ Eo fun F1 H1 u => by
    cases b with
    | true => exact h1 rfl F1 H1 σ fps _ (Eo.up u) s fun F' H' σ' fps' e' s' l' => hk F' H' σ' fps' D e' s' (q.le (u.le.trans l'))
    | false => exact h2 rfl F1 H1 σ fps _ (Eo.up u) s fun F' H' σ' fps' e' s' l' => hk F' H' σ' fps' D e' s' (q.le (u.le.trans l'))⟩
/-- what comes behind is told of any value -/
theorem run_any {T : Type} {ss : List Stmt} (x : T) (P : T → Prop) (hx : P x) {o : T → Out} {G : T → Env} (h : ∀ y, P y → Run X K W sv ss (G y) (o y)) : Run X K W sv ss (G x) (o x) := h x hx

/-! ### loops -/
inductive Step (S T : Type) where
  | nx (s : S) | ct (s : S) | bk (s : S) | fin (x : T)
def Step.out {S T : Type} (Gs : S → Env) (E : T → Out) : Step S T → Out
  | .nx s => .nx (Gs s)
  | .ct s => .ct (Gs s)
  | .bk s => .bk (Gs s)
  | .fin x => E x
def loop {A S T R : Type} (step : S → A → Step S R) (io : R → T) (k : S → T) : List A → S → T
  | [], s => k s
  | x :: xs, s => match step s x with
    | .nx s' => loop step io k xs s'
    | .ct s' => loop step io k xs s'
    | .bk s' => k s'
    | .fin y => io y
def LoopAll {A S T : Type} (P : S → A → Prop) (Q : S → Prop) (step : S → A → Step S T) : List A → S → Prop
  | [], s => Q s
  | x :: xs, s => P s x ∧ match step s x with
    | .nx s' => LoopAll P Q step xs s'
    | .ct s' => LoopAll P Q step xs s'
    | .bk s' => Q s'
    | .fin _ => True
theorem LoopAll.all {A S T : Type} {P : S → A → Prop} {Q : S → Prop} {step : S → A → Step S T} (h : ∀ s x, P s x) (hq : ∀ s, Q s) : ∀ (xs : List A) (s : S), LoopAll P Q step xs s
  | [], s => hq s
  | x :: xs, s => ⟨h s x, by
    cases step s x with
    | nx s' => exact LoopAll.all h hq xs s'
    | ct s' => exact LoopAll.all h hq xs s'
    | bk s' => exact hq s'
    | fin _ => trivial⟩
/-- it is returned or raised -/
def Term : Out → Prop
  | .rt _ _ => True
  | .xc _ _ => True
  | _ => False
theorem Fin.term {D D' : Ends} {F H : Hp} {fps : Nat → List Addr} (hr : D'.rt = D.rt) : ∀ {o : Out}, Term o → Fin K W sv D F H fps o → Fin K W sv D' F H fps o
  | .nx G, n, _ => n.elim
  | .bk _, n, _ => n.elim
  | .ct _, n, _ => n.elim
  | .rt _ none, _, h => fun F' H' v fp s l r n => by rw [hr]; exact h F' H' v fp s l r n
  | .rt _ (some _), _, h => fun F' H' σ' fps' v fp e s l r n => by rw [hr]; exact h F' H' σ' fps' v fp e s l r n
  | .xc _ _, _, h => h

/-- a loop's word at turn i -/
structure LoopW {A S T R : Type} (K : PySem.W.Frag) (W : WX) (sv : Sv) (D : Ends) (F0 H0 : Hp) (fps0 : Nat → List Addr) (Gs : S → Env) (E : T → Out) (P : S → A → Prop) (Q : S → Prop) (step : S → A → Step S R) (io : R → T) (k : S → T) (xs : List A) (y : T) (i : Nat) (σ : L2.St) (H : Hp) : Prop where
  ex : ∃ F fps s, EnvOk K F H σ (Gs s) fps ∧ Slf sv σ ∧ Le (Owns fps0) F0 H0 F H (Owns fps) ∧ loop step io k (xs.drop i) s = y ∧ LoopAll P Q step (xs.drop i) s
end
section
variable {X : Cx} {K : PySem.W.Frag} {W : WX} {sv : Sv} {G : Env} {rest : List Stmt} {o : Out} {pos : Pos} {A S T R : Type}
/-- one turn, whatever gives the items -/
theorem loop_turn {D : Ends} {F0 H0 : Hp} {fps0 : Nat → List Addr} {Gs : S → Env} {Gb : S → A → Env} {E : T → Out} {P : S → A → Prop} {Q : S → Prop} {step : S → A → Step S R} {io : R → T} {k : S → T} {xs : List A} {s0 : S} {body : List Stmt} {i : Nat} {x : A} {σ : L2.St} {H : Hp}
    (hE : ∀ y, Term (E (io y))) (hb : ∀ s x, x ∈ xs → P s x → Run X K W sv body (Gb s x) ((step s x).out Gs fun y => E (io y))) (hk : ∀ s, Q s → Run X K W sv rest (Gs s) (E (k s)))
    (q : Fin K W sv D F0 H0 fps0 (E (loop step io k xs s0))) (hx : xs[i]? = some x) (w : LoopW K W sv D F0 H0 fps0 Gs E P Q step io k xs (loop step io k xs s0) i σ H)
    (R : L2.St → Hp → Prop) (go : ∀ F fps s, EnvOk K F H σ (Gs s) fps → Slf sv σ → Le (Owns fps0) F0 H0 F H (Owns fps) → (∀ F' H' σ' fps', EnvOk K F' H' σ' (Gb s x) fps' → Slf sv σ' → Le (Owns fps) F H F' H' (Owns fps') →
      wpSs X body { D with nx := LoopW K W sv D F0 H0 fps0 Gs E P Q step io k xs (loop step io k xs s0) (i + 1), ct := LoopW K W sv D F0 H0 fps0 Gs E P Q step io k xs (loop step io k xs s0) (i + 1), bk := wpSs X rest D } σ' H') → R σ H) : R σ H := by
  obtain ⟨F, fps, s, e, sl, l, hy, hp⟩ := w.ex
  have hlt : i < xs.length := (List.getElem?_eq_some_iff.mp hx).1
  have hd : xs.drop i = x :: xs.drop (i + 1) := by
    rw [List.drop_eq_getElem_cons hlt]
    have : xs[i] = x := (List.getElem?_eq_some_iff.mp hx).2
    rw [this]
  rw [hd] at hy hp
  have hm : x ∈ xs := List.mem_of_getElem? hx
  refine go F fps s e sl l fun F' H' σ' fps' e' sl' l' => ?_
  refine hb s x hm hp.1 F' H' σ' fps' _ e' sl' ?_
  have hp2 := hp.2
  have hy2 : (match step s x with
    | .nx s' => loop step io k (xs.drop (i + 1)) s'
    | .ct s' => loop step io k (xs.drop (i + 1)) s'
    | .bk s' => k s'
    | .fin y => io y) = loop step io k xs s0 := hy
  generalize step s x = st at hy2 hp2
  cases st with
  | nx s' => exact fun F2 H2 σ2 fps2 e2 sl2 l2 => ⟨F2, fps2, s', e2, sl2, l.trans (l'.trans l2), hy2, hp2⟩
  | ct s' => exact fun F2 H2 σ2 fps2 e2 sl2 l2 => ⟨F2, fps2, s', e2, sl2, l.trans (l'.trans l2), hy2, hp2⟩
  | bk s' => exact fun F2 H2 σ2 fps2 e2 sl2 l2 => hk s' hp2 F2 H2 σ2 fps2 D e2 sl2 (by
      rw [show k s' = loop step io k xs s0 from hy2]
      exact q.le (l.trans (l'.trans l2)))
  | fin y =>
    show Fin K W sv _ F' H' fps' (E (io y))
    have hT := hE y
    rw [show io y = loop step io k xs s0 from hy2] at hT ⊢
    exact Fin.term (D := D) (D' := { D with nx := LoopW K W sv D F0 H0 fps0 Gs E P Q step io k xs (loop step io k xs s0) (i + 1), ct := LoopW K W sv D F0 H0 fps0 Gs E P Q step io k xs (loop step io k xs s0) (i + 1), bk := wpSs X rest D }) rfl hT (q.le (l.trans l'))
theorem loop_done {D : Ends} {F0 H0 : Hp} {fps0 : Nat → List Addr} {Gs : S → Env} {E : T → Out} {P : S → A → Prop} {Q : S → Prop} {step : S → A → Step S R} {io : R → T} {k : S → T} {xs : List A} {s0 : S} {i : Nat} {σ : L2.St} {H : Hp}
    (hk : ∀ s, Q s → Run X K W sv rest (Gs s) (E (k s))) (q : Fin K W sv D F0 H0 fps0 (E (loop step io k xs s0))) (hi : xs.length ≤ i) (w : LoopW K W sv D F0 H0 fps0 Gs E P Q step io k xs (loop step io k xs s0) i σ H) : wpSs X rest D σ H := by
  obtain ⟨F, fps, s, e, sl, l, hy, hp⟩ := w.ex
  rw [List.drop_eq_nil_of_le hi] at hy
  have hy2 : k s = loop step io k xs s0 := hy
  rw [List.drop_eq_nil_of_le hi] at hp
  exact hk s hp F H σ fps D e sl (by rw [hy2]; exact q.le l)
theorem envSet {F H : Hp} {σ : L2.St} {G : Env} {fps : Nat → List Addr} {i : Nat} {v : V} {d : Dt} (e : EnvOk K F H σ G fps) (hi : i < G.length) (r : Rep K F v d) : EnvOk K F H (σ.set i (some v)) (G.set i (some (.fz d))) (put fps i []) :=
  e.set hi (.fz r) (fun a ha => by simp at ha) fun a ha => by simp at ha
theorem leSet {F H : Hp} {fps : Nat → List Addr} {i : Nat} : Le (Owns fps) F H F H (Owns (put fps i [])) := ⟨Ex.refl F, ExO.refl _, fun _ _ z _ => z, fun a h => (owns_put h).elim (fun z => by simp at z) .inl⟩
end
end Vs

/-! What is walked, targets, for, comprehensions. -/
namespace Vs
open PySem PySem.Spec L2

/-- what an iterator gives -/
def Kp (F1 H1 H' : Hp) : Prop := ∀ a o, F1 a ≠ none → H1 a = some o → nT o = true → H' a = some o
structure Yields (K : PySem.W.Frag) (J : It) (F1 H1 : Hp) (ds : List Dt) : Prop where
  stop : ∀ i F' H', Ex F1 F' → Sub F' H' → Kp F1 H1 H' → ds.length ≤ i → J.stop i H'
  go : ∀ i F' H', Ex F1 F' → Sub F' H' → Kp F1 H1 H' → i < ds.length → J.go i H'
  yld : ∀ i d F' H' v H'', Ex F1 F' → Sub F' H' → Kp F1 H1 H' → ds[i]? = some d → J.yld i H' v H'' → ∃ F'', Up F' H' F'' H'' ∧ Rep K F'' v d
def ISrc {I : Type} (X : I → Cx) (K : PySem.W.Frag) (G : Env) (tg iter : Expr) (ds : List Dt) : Prop :=
  ∃ wi, (∀ i, PI (X i) tg iter wi) ∧ (∀ i x, foldedSetIterable iter (X i).env x = pure x) ∧ ∀ F H σ fps (R : It → Hp → Prop), EnvOk K F H σ G fps → (∀ J F1 H1, Up F H F1 H1 → Yields K J F1 H1 ds → R J H1) → wi σ H R
/-- .. where something holds at the beginning -/
def ISrcL (L : Hp → Hp → L2.St → Prop) {I : Type} (X : I → Cx) (K : PySem.W.Frag) (G : Env) (tg iter : Expr) (ds : List Dt) : Prop :=
  ∃ wi, (∀ i, PI (X i) tg iter wi) ∧ (∀ i x, foldedSetIterable iter (X i).env x = pure x) ∧ ∀ F H σ fps (R : It → Hp → Prop), EnvOk K F H σ G fps → L F H σ → (∀ J F1 H1, Up F H F1 H1 → Yields K J F1 H1 ds → R J H1) → wi σ H R
theorem ISrc.lk {I : Type} {X : I → Cx} {K : PySem.W.Frag} {G : Env} {tg iter : Expr} {ds : List Dt} (h : ISrc X K G tg iter ds) : ISrcL (fun _ _ _ => True) X K G tg iter ds := by
  obtain ⟨wi, h1, h2, h3⟩ := h
  exact ⟨wi, h1, h2, fun F H σ fps R e _ q => h3 F H σ fps R e q⟩
theorem kp_le {K : PySem.W.Frag} {F H F' H' : Hp} {σ : L2.St} {G : Env} {fps fps' : Nat → List Addr} (E : EnvOk K F H σ G fps) (l : Le (Owns fps) F H F' H' (Owns fps')) : Kp F H H' := fun a o n z m => l.hp.k a o (fun y => n (E.own y.choose a y.choose_spec).1) z m
section
variable {I : Type} {X : I → Cx} {K : PySem.W.Frag} {G : Env} {tg iter : Expr} {ds : List Dt}
theorem src_list (hK : ∀ i, (X i).K = K) (h : EX X K G iter (.lst ds)) (hs : ∀ i x, foldedSetIterable iter (X i).env x = pure x := by intro _ _; rfl) : ISrc X K G tg iter ds :=
  ⟨iList K (wpE X iter), fun i => hK i ▸ pi_list (pe_wp i), hs, fun F H σ fps R E q => h F H σ fps _ E fun F1 H1 v u r => by
    cases r with
    | lst h1 l1 r1 =>
      rename_i a vs
      refine ⟨a, rfl, ⟨vs, SqL.of (u.sb.lst h1)⟩, q _ F1 H1 u ⟨fun i F' H' e s _ hi => ⟨vs, SqL.of (s.lst (e _ _ h1)), by rw [r1.len]; exact hi⟩, fun i F' H' e s _ hi => ?_, fun i d F' H' v H'' e s _ hd hy => ?_⟩⟩
      · have hl : i < vs.length := by rw [r1.len]; exact hi
        exact ⟨vs, vs[i], SqL.of (s.lst (e _ _ h1)), by simp [hl]⟩
      · obtain ⟨rfl, hv⟩ := hy
        obtain ⟨w, h2, h3⟩ := r1.get hd
        have := hv vs (SqL.of (s.lst (e _ _ h1)))
        rw [h2] at this; cases this
        exact ⟨F', Up.refl s, h3.mono e⟩⟩
theorem src_tup (hK : ∀ i, (X i).K = K) (h : EX X K G iter (.tup ds)) (hs : ∀ i x, foldedSetIterable iter (X i).env x = pure x := by intro _ _; rfl) : ISrc X K G tg iter ds :=
  ⟨iTup K (wpE X iter), fun i => hK i ▸ pi_tup (pe_wp i), hs, fun F H σ fps R E q => h F H σ fps _ E fun F1 H1 v u r => by
    cases r with
    | tup h1 l1 r1 =>
      rename_i a vs
      refine ⟨a, rfl, ⟨vs, SqT.of (u.sb.tup h1)⟩, q _ F1 H1 u ⟨fun i F' H' e s _ hi => ⟨vs, SqT.of (s.tup (e _ _ h1)), by rw [r1.len]; exact hi⟩, fun i F' H' e s _ hi => ?_, fun i d F' H' v H'' e s _ hd hy => ?_⟩⟩
      · have hl : i < vs.length := by rw [r1.len]; exact hi
        exact ⟨vs, vs[i], SqT.of (s.tup (e _ _ h1)), by simp [hl]⟩
      · obtain ⟨rfl, hv⟩ := hy
        obtain ⟨w, h2, h3⟩ := r1.get hd
        have := hv vs (SqT.of (s.tup (e _ _ h1)))
        rw [h2] at this; cases this
        exact ⟨F', Up.refl s, h3.mono e⟩⟩
theorem src_scr (hK : ∀ i, (X i).K = K) (h : EX X K G iter (.scr ds)) (hs : ∀ i x, foldedSetIterable iter (X i).env x = pure x := by intro _ _; rfl) : ISrc X K G tg iter ds :=
  ⟨iList K (wpE X iter), fun i => hK i ▸ pi_list (pe_wp i), hs, fun F H σ fps R E q => h F H σ fps _ E fun F1 H1 v u r => by
    cases r with
    | scr h1 l1 r1 =>
      rename_i a vs
      have sc : ∀ F' H', Ex F1 F' → Sub F' H' → SqL K H' a vs := fun F' H' e s => s.sql (e.sql h1)
      refine ⟨a, rfl, ⟨vs, sc F1 H1 (Ex.refl _) u.sb⟩, q _ F1 H1 u ⟨fun i F' H' e s _ hi => ⟨vs, sc F' H' e s, by rw [r1.len]; exact hi⟩, fun i F' H' e s _ hi => ?_, fun i d F' H' v H'' e s _ hd hy => ?_⟩⟩
      · have hl : i < vs.length := by rw [r1.len]; exact hi
        exact ⟨vs, vs[i], sc F' H' e s, by simp [hl]⟩
      · obtain ⟨rfl, hv⟩ := hy
        obtain ⟨w, h2, h3⟩ := r1.get hd
        have := hv vs (sc F' _ e s)
        rw [h2] at this; cases this
        exact ⟨F', Up.refl s, h3.mono e⟩⟩
/-- the signs of a text -/
def signs (s : Str) : List Dt := s.cps.toList.map fun c => .str ⟨#[c]⟩
theorem src_str {s : Str} (h : EX X K G iter (.str s)) (hs : ∀ i x, foldedSetIterable iter (X i).env x = pure x := by intro _ _; rfl) : ISrc X K G tg iter (s.cps.toList.map fun c => .str ⟨#[c]⟩) :=
  ⟨iStr (wpE X iter), fun i => pi_str (pe_wp i), hs, fun F H σ fps R E q => h F H σ fps _ E fun F1 H1 v u r => by
    cases r with
    | str _ l1 =>
      refine ⟨s, rfl, q _ F1 H1 u ⟨fun i F' H' e s' _ hi => ?_, fun i F' H' e s' _ hi => ?_, fun i d F' H' v H'' e s' _ hd hy => ?_⟩⟩
      · rw [List.length_map] at hi
        exact hi
      · rw [List.length_map] at hi
        exact hi
      · obtain ⟨rfl, c, hc, rfl⟩ := hy
        rw [List.getElem?_map] at hd
        have e2 : s.cps.toList[i]? = some c := by rw [Array.getElem?_toList]; exact hc
        rw [e2] at hd
        cases hd
        exact ⟨F', Up.refl s', .str _ (good_one ((good_iff.mp l1).2 c (List.mem_of_getElem? e2)))⟩⟩
/-- range(n) -/
theorem src_range1 {a : Expr} {p pos : Pos} {n : Int} (hg : ∀ i, Gl (X i) "range") (hm : ∀ i, (X i).mg "range" = none) (h : EX X K G a (.int n)) (h1 : -(2 ^ 62) ≤ n) (h2 : n < 2 ^ 62) (hsa : ∀ i, starEach [a] (X i).env = [(false, eval a (X i).env)] := by intro _; rfl)
    (hs : ∀ i x, foldedSetIterable (.Call (.Name "range" p) [a] [] pos) (X i).env x = pure x := by intro _ _; rfl) : ISrc X K G tg (.Call (.Name "range" p) [a] [] pos) ((List.range n.toNat).map fun (i : Nat) => Dt.int (i : Int)) :=
  ⟨iRng1 (tCons (wpE X a) tNil), fun i => pi_range1 (hg i) (hm i) (pa_cons (pe_wp i) pa_nil (hsa i)) (hsa i), hs, fun F H σ fps R E q => h F H σ fps _ E fun F1 H1 v u r => by
    cases r
    refine ⟨n, rfl, h1, h2, q _ F1 H1 u ⟨fun i F' H' e s' _ hi => ?_, fun i F' H' e s' _ hi => ?_, fun i d F' H' v H'' e s' _ hd hy => ?_⟩⟩
    · rw [List.length_map, List.length_range] at hi
      exact hi
    · rw [List.length_map, List.length_range] at hi
      exact hi
    · obtain ⟨rfl, rfl⟩ := hy
      rw [List.getElem?_map] at hd
      have hi : i < (List.range n.toNat).length := by
        cases z : (List.range n.toNat)[i]? with
        | none => rw [z] at hd; cases hd
        | some k => exact (List.getElem?_eq_some_iff.mp z).1
      rw [List.length_range] at hi
      rw [List.getElem?_range hi] at hd
      cases hd
      exact ⟨F', Up.refl s', by rw [Int.zero_add]; exact .int _⟩⟩
/-- range(a, b) -/
theorem src_range2 {a b : Expr} {p pos : Pos} {lo n : Int} (hg : ∀ i, Gl (X i) "range") (hm : ∀ i, (X i).mg "range" = none) (h : EX X K G a (.int lo)) (h' : EX X K G b (.int n)) (h1 : -(2 ^ 62) ≤ lo ∧ lo < 2 ^ 62 ∧ -(2 ^ 62) ≤ n ∧ n < 2 ^ 62)
    (hsa : ∀ i, starEach [a, b] (X i).env = [(false, eval a (X i).env), (false, eval b (X i).env)] := by intro _; rfl) (hsb : ∀ i, starEach [b] (X i).env = [(false, eval b (X i).env)] := by intro _; rfl)
    (hs : ∀ i x, foldedSetIterable (.Call (.Name "range" p) [a, b] [] pos) (X i).env x = pure x := by intro _ _; rfl) : ISrc X K G tg (.Call (.Name "range" p) [a, b] [] pos) ((List.range (n - lo).toNat).map fun (i : Nat) => Dt.int (lo + (i : Int))) :=
  ⟨iRng2 (tCons (wpE X a) (tCons (wpE X b) tNil)), fun i => pi_range2 (hg i) (hm i) (pa_cons (pe_wp i) (pa_cons (pe_wp i) pa_nil (hsb i)) (by rw [hsa, hsb])) (hsa i) (hsb i), hs, fun F H σ fps R E q => h F H σ fps _ E fun F1 H1 v u r => h' F1 H1 σ fps _ (E.up u) fun F2 H2 v2 u2 r2 => by
    cases r; cases r2
    refine ⟨lo, n, rfl, h1, q _ F2 H2 (u.trans u2) ⟨fun i F' H' e s' _ hi => ?_, fun i F' H' e s' _ hi => ?_, fun i d F' H' v H'' e s' _ hd hy => ?_⟩⟩
    · rw [List.length_map, List.length_range] at hi
      exact hi
    · rw [List.length_map, List.length_range] at hi
      exact hi
    · obtain ⟨rfl, rfl⟩ := hy
      rw [List.getElem?_map] at hd
      have hi : i < (List.range (n - lo).toNat).length := by
        cases z : (List.range (n - lo).toNat)[i]? with
        | none => rw [z] at hd; cases hd
        | some k => exact (List.getElem?_eq_some_iff.mp z).1
      rw [List.length_range] at hi
      rw [List.getElem?_range hi] at hd
      cases hd
      exact ⟨F', Up.refl s', .int _⟩⟩
theorem mapIdx_get {A B : Type} (f : Nat → A → B) (xs : List A) (i : Nat) : (xs.mapIdx f)[i]? = xs[i]?.map (f i) := by
  rw [List.getElem?_mapIdx]
/-- enumerate(list) -/
theorem src_enum {a : Expr} {p pos tpos : Pos} {elts : List Expr} {kk : Nat} (hK : ∀ i, (X i).K = K) (hg : ∀ i, Gl (X i) "enumerate") (hm : ∀ i, (X i).mg "enumerate" = none) (h : EX X K G a (.lst ds)) (hsa : ∀ i, starEach [a] (X i).env = [(false, eval a (X i).env)] := by intro _; rfl)
    (hs : ∀ i x, foldedSetIterable (.Call (.Name "enumerate" p) [a] [] pos) (X i).env x = pure x := by intro _ _; rfl) : ISrc X K G (.Tuple elts kk tpos) (.Call (.Name "enumerate" p) [a] [] pos) (ds.mapIdx fun i d => .tup [.int (i : Int), d]) :=
  ⟨iEnum K (tCons (wpE X a) tNil), fun i => hK i ▸ pi_enum (hg i) (hm i) (pa_cons (pe_wp i) pa_nil (hsa i)) (hsa i), hs, fun F H σ fps R E q => h F H σ fps _ E fun F1 H1 v u r => by
    cases r with
    | lst h1 l1 r1 =>
      rename_i a vs
      refine ⟨a, vs, rfl, SqL.of (u.sb.lst h1), q _ F1 H1 u ⟨fun i F' H' e s _ hi => ⟨vs, SqL.of (s.lst (e _ _ h1)), by rw [r1.len]; simpa using hi⟩, fun i F' H' e s _ hi => ?_, fun i d F' H' v H'' e s _ hd hy => ?_⟩⟩
      · have hl : i < vs.length := by rw [r1.len]; simpa using hi
        exact ⟨vs, vs[i], SqL.of (s.lst (e _ _ h1)), by simp [hl]⟩
      · obtain ⟨T, x, rfl, hT, rfl, hv⟩ := hy
        rw [mapIdx_get] at hd
        cases hx : ds[i]? with
        | none => rw [hx] at hd; cases hd
        | some d0 =>
          rw [hx] at hd; cases hd
          obtain ⟨w, h2, h3⟩ := r1.get hx
          have e9 := hv vs (SqL.of (s.lst (e _ _ h1)))
          rw [h2] at e9
          obtain rfl : w = x := Option.some.inj e9
          have up := Up.lay (o := .tup [.int (i : Nat), w]) s hT
          exact ⟨_, up, .tup upd_same (by show 2 ≤ big; decide) (.cons (.int _) (.cons ((h3.mono e).mono up.fr) .nil))⟩⟩
end

/-! ### targets -/
/-- g puts the data d into the names js -/
def Bd (K : PySem.W.Frag) (g : TG) (js : List Nat) (d : Dt) (G G' : Env) : Prop :=
  ∀ F H σ fps v (Q : L2.St → Hp → Prop), EnvOk K F H σ G fps → Rep K F v d → (∀ σ' fps', EnvOk K F H σ' G' fps' → σ'.length = σ.length → (∀ i, i ∉ js → σ'[i]? = σ[i]?) → Le (Owns fps) F H F H (Owns fps') → Q σ' H) → g v σ H Q
section
variable {K : PySem.W.Frag} {G G' G'' : Env} {d : Dt}
theorem bd_name {j : Nat} (hl : j < G.length) : Bd K (gName j) [j] d G (G.set j (some (.fz d))) := fun F H σ fps v Q E r q =>
  q _ _ (envSet E hl r) (by rw [List.length_set]) (fun i hi => by
    have hne : j ≠ i := fun z => hi (by rw [z]; simp)
    rw [List.getElem?_set_ne hne]) leSet
/-- several targets -/
def BdL (K : PySem.W.Frag) (g : TGs) (js : List Nat) (ds : List Dt) (G G' : Env) : Prop :=
  ∀ F H σ fps vs (Q : L2.St → Hp → Prop), EnvOk K F H σ G fps → RepL K F vs ds → (∀ σ' fps', EnvOk K F H σ' G' fps' → σ'.length = σ.length → (∀ i, i ∉ js → σ'[i]? = σ[i]?) → Le (Owns fps) F H F H (Owns fps') → Q σ' H) → g vs σ H Q
theorem bdl_nil : BdL K gNil [] [] G G := fun F H σ fps vs Q E r q => by
  cases r
  exact ⟨rfl, q σ fps E rfl (fun _ _ => rfl) Le.refl⟩
theorem bdl_cons {g : TG} {gs : TGs} {js ks : List Nat} {ds : List Dt} (h : Bd K g js d G G') (hs : BdL K gs ks ds G' G'') : BdL K (gCons g gs) (js ++ ks) (d :: ds) G G'' := fun F H σ fps vs Q E r q => by
  cases r with
  | cons r1 r2 =>
    refine ⟨_, _, rfl, h F H σ fps _ _ E r1 fun σ1 fps1 E1 l1 e1 le1 => ?_⟩
    refine hs F H σ1 fps1 _ _ E1 r2 fun σ2 fps2 E2 l2 e2 le2 => q σ2 fps2 E2 (l2.trans l1) (fun i hi => ?_) (le1.trans le2)
    rw [List.mem_append] at hi
    rw [e2 i (fun z => hi (.inr z)), e1 i (fun z => hi (.inl z))]
theorem bd_tup {g : TGs} {js : List Nat} {ds : List Dt} {n : Nat} (h : BdL K g js ds G G') (hn : ds.length = n) : Bd K (gTup K n g) js (.tup ds) G G' := fun F H σ fps v Q E r q => by
  cases r with
  | tup h1 l1 r1 => exact ⟨_, _, rfl, SqT.of (E.sub.tup h1), by rw [r1.len, hn], h F H σ fps _ Q E r1 q⟩
end

section
variable {X : Cx} {K : PySem.W.Frag} {W : WX} {sv : Sv} {G : Env} {rest : List Stmt} {o : Out} {pos : Pos} {A S T : Type}
theorem Slf.same {σ σ' : L2.St} {js : List Nat} (s : Slf sv σ) (h : ∀ i, i ∉ js → σ'[i]? = σ[i]?) (hv : noneIn sv.ks js = true) : Slf sv σ' := fun i e => by
  rw [h i (noneIn_ok hv i e)]; exact s i e
/-- a, b = e -/
theorem run_asgT {tg e : Expr} {g : TG} {js : List Nat} {d : Dt} {G' : Env} (h : EX (one X) K G e d) (hg : PG X tg g) (hB : Bd K g js d G G') (hv : noneIn sv.ks js = true) (k : Run X K W sv rest G' o)
    (hs : swapsWithSole [tg] e pos.line X.env = pure false := by rfl) (hw : swappedStores [tg] e X.env = pure none := by rfl) (hx : (assignEach [tg] X.env).map (·.2) = [assign tg X.env] := by rfl) : Run X K W sv (.Assign [tg] e pos :: rest) G o := fun F H σ fps D E s q =>
  ⟨tSeq (tAsg (wpE (one X) e) g) (wpSs X rest), pss_cons (ps_asg pe_w1 hg hs hw hx) pss_wp, h F H σ fps _ E fun F1 H1 v u r =>
    hB F1 H1 σ fps v _ (E.up u) r fun σ' fps' E' _ e' l' => k F1 H1 σ' fps' D E' (s.same e' hv) (q.le (u.le.trans l'))⟩
/-- for TARGET in SOURCE -/
theorem run_for {R : Type} {tg iter : Expr} {g : TG} {js : List Nat} {body : List Stmt} {P : S → A → Prop} {Q : S → Prop} {s0 : S} {xs : List A} (enc : A → Dt) (Gs : S → Env) (Gb : S → A → Env) (E : T → Out) (step : S → A → Step S R) (io : R → T) (k : S → T)
    (hp : PassesOwn (model X.prog X.w) X.A X.env X.xe) (hc : X.calm = true) (hg : PG X tg g) (hv : noneIn sv.ks js = true) (hE : ∀ y, Term (E (io y)))
    (hi : ISrc (one X) K G tg iter (xs.map enc)) (h0 : Weak G (Gs s0)) (hB : ∀ s x, Bd K g js (enc x) (Gs s) (Gb s x)) (hP : LoopAll P Q step xs s0)
    (hb : ∀ s x, x ∈ xs → P s x → Run X K W sv body (Gb s x) ((step s x).out Gs fun y => E (io y)))
    (hk : ∀ s, Q s → Run X K W sv rest (Gs s) (E (k s))) : Run X K W sv (.For tg iter body [] pos :: rest) G (E (loop step io k xs s0)) := fun F H σ fps D Eo s q => by
  obtain ⟨wi, h1, h2, h3⟩ := hi
  refine ⟨tSeq (tFor wi g (wpSs X body)) (wpSs X rest), pss_cons (ps_for hp hc (h1 ()) hg pss_wp (h2 ())) pss_wp, h3 F H σ fps _ Eo fun J F1 H1 u y => ?_⟩
  have q1 : Fin K W sv D F1 H1 fps (E (loop step io k xs s0)) := q.le u.le
  refine ⟨fun i m σ' H' => (m = xs.length - i ∧ i ≤ xs.length) ∧ LoopW K W sv D F1 H1 fps Gs E P Q step io k xs (loop step io k xs s0) i σ' H', ⟨xs.length, ⟨by omega, Nat.zero_le _⟩, F1, fps, s0, h0.ok (Eo.up u), s, Le.refl, rfl, hP⟩, ?_⟩
  rintro i m σ' H' ⟨⟨rfl, hi⟩, w⟩
  by_cases hlt : i < xs.length
  · refine .inr ⟨?_, fun σ2 H2 => LoopW K W sv D F1 H1 fps Gs E P Q step io k xs (loop step io k xs s0) (i + 1) σ2 H2, fun σ2 H2 w2 => ⟨xs.length - (i + 1), by omega, ⟨rfl, hlt⟩, w2⟩, fun v H2 hy => ?_⟩
    · obtain ⟨F', fps', s', e', _, l', _⟩ := w.ex
      exact y.go i F' H' l'.fr e'.sub (kp_le (Eo.up u) l') (by rw [List.length_map]; exact hlt)
    · refine loop_turn hE hb hk q1 (show xs[i]? = some xs[i] by simp [hlt]) w (fun σ' H' => J.yld i H' v H2 → g v σ' H2 fun σ2 H2 => wpSs X body _ σ2 H2) (fun F' fps' s' e' sl' l' go hy => ?_) hy
      obtain ⟨F2, u2, r2⟩ := y.yld i (enc xs[i]) F' H' v H2 l'.fr e'.sub (kp_le (Eo.up u) l') (by rw [List.getElem?_map]; simp [hlt]) hy
      exact hB s' xs[i] F2 H2 σ' fps' v _ (e'.up u2) r2 fun σ3 fps3 e3 _ h3 l3 => go F2 H2 σ3 fps3 e3 (sl'.same h3 hv) (u2.le.trans l3)
  · have hi2 : i = xs.length := by omega
    refine .inl ⟨?_, loop_done hk q1 (by omega) w⟩
    obtain ⟨F', fps', s', e', _, l', _⟩ := w.ex
    exact y.stop i F' H' l'.fr e'.sub (kp_le (Eo.up u) l') (by rw [List.length_map]; omega)
end

/-! ### comprehensions -/
def wipeG (G : Env) : List Nat → Env
  | [] => G
  | v :: vs => (wipeG G vs).set v none
theorem wipeG_len (G : Env) : ∀ vs : List Nat, (wipeG G vs).length = G.length
  | [] => rfl
  | v :: vs => by unfold wipeG; rw [List.length_set, wipeG_len G vs]
theorem wipe_get (σ : L2.St) : ∀ (vs : List Nat) (i : Nat), (wipe σ vs)[i]? = if i ∈ vs then (if i < σ.length then some none else none) else σ[i]?
  | [], i => by simp [wipe]
  | v :: vs, i => by
    unfold wipe
    by_cases h : v = i
    · subst h
      by_cases hl : v < σ.length
      · rw [List.getElem?_set_self (by rw [wipe_length]; exact hl)]; simp [hl]
      · rw [List.getElem?_eq_none (by rw [List.length_set, wipe_length]; omega)]; simp [hl]
    · rw [List.getElem?_set_ne h, wipe_get σ vs i]
      have hne : ¬ i = v := fun z => h z.symm
      simp [hne]
theorem wipe_same {σ σ' : L2.St} {vs : List Nat} (hl : σ'.length = σ.length) (h : ∀ i, i ∉ vs → σ'[i]? = (wipe σ vs)[i]?) : wipe σ' vs = wipe σ vs := by
  apply List.ext_getElem?
  intro i
  rw [wipe_get σ' vs i, wipe_get σ vs i]
  by_cases hi : i ∈ vs
  · simp [hi, hl]
  · have h1 := h i hi
    rw [wipe_get σ vs i] at h1
    simp only [hi, if_false] at h1 ⊢
    exact h1
theorem wipe_env {K : PySem.W.Frag} {F H : Hp} {σ : L2.St} {G : Env} {fps : Nat → List Addr} (e : EnvOk K F H σ G fps) : ∀ vs : List Nat, EnvOk K F H (wipe σ vs) (wipeG G vs) fps
  | [] => e
  | v :: vs => by
    have e1 := wipe_env e vs
    unfold wipe wipeG
    refine ⟨e1.sub, by rw [List.length_set, List.length_set, e1.len], fun i c h => ?_, e1.own, e1.dis, e1.tab⟩
    by_cases hv : v = i
    · subst hv
      by_cases hl : v < (wipeG G vs).length
      · rw [List.getElem?_set_self hl] at h; cases h
      · rw [List.getElem?_eq_none (by rw [List.length_set]; omega)] at h; cases h
    · rw [List.getElem?_set_ne hv] at h ⊢
      exact e1.ent i c h
theorem filterMap_take_succ {A B : Type} (f : A → Option B) {xs : List A} {i : Nat} {x : A} (h : xs[i]? = some x) : (xs.take (i + 1)).filterMap f = (xs.take i).filterMap f ++ (f x).toList := by
  rw [List.take_succ, h, List.filterMap_append]
  cases h2 : f x <;> simp [h2]
theorem filterMap_len {A B : Type} (f : A → Option B) (xs : List A) : (xs.filterMap f).length ≤ xs.length := List.length_filterMap_le f xs
section
variable {I A : Type} {X : I → Cx} {K : PySem.W.Frag} {G : Env}
/-- the block's contexts -/
structure BlkI (I : Type) where
  i : I
  s : Shared
  H : Hp
  C : Addr
  cl : List (Str × Addr)
  fp : List Addr
def blkX (X : I → Cx) (scope : Scope) : BlkI I → Cx := fun b => (X b.i).blk b.s b.H scope (compEnvC scope b.cl b.C (X b.i).env) b.fp
/-- tests of a comprehension -/
def ETs (X : I → Cx) (K : PySem.W.Frag) (G : Env) (ifs : List Expr) (b : Bool) : Prop :=
  ∃ t : TT, (∀ i, PTs (X i) ifs t) ∧ ∀ F H σ fps (Q : Bool → Hp → Prop), EnvOk K F H σ G fps → (∀ F' H', Up F H F' H' → Q b H') → t σ H Q

/-- the reading of a comprehension -/
theorem lc_readL (L : Hp → Hp → L2.St → Prop) {A : Type} {X : I → Cx} {elt tg iter : Expr} {ifs : List Expr} {scope : Scope} {own : List (Str × Nat)} {pos : Pos} {g : TG} {js : List Nat} {xs : List A} (enc : A → Dt) (Gb : A → Env) (p : A → Bool) (f : A → Dt)
    (hc : ∀ i, (X i).calm = true) (hN : ∀ i, (X i).N.Nodup) (hi : ISrcL L X K G tg iter (xs.map enc)) (hn : xs.length ≤ big) (ok : ∀ i, BlkOk (X i).N (X i).env.scope scope own) (hjs : ∀ j ∈ js, j ∈ own.map (·.2))
    (hg : ∀ b, PG (blkX X scope b) tg g) (hB : ∀ x, Bd K g js (enc x) (wipeG G (own.map (·.2))) (Gb x))
    (ht : ∃ t : TT, (∀ i, PTs (blkX X scope i) ifs t) ∧ ∀ x, x ∈ xs → ∀ F H σ fps (Q : Bool → Hp → Prop), EnvOk K F H σ (Gb x) fps → (∀ F' H', Up F H F' H' → Q (p x) H') → t σ H Q)
    (he : ∀ x, x ∈ xs → p x = true → EX (blkX X scope) K (Gb x) elt (f x)) :
    ∃ (wi : TI) (tt : TT), (∀ i, PI (X i) tg iter wi) ∧ (∀ i x, foldedSetIterable iter (X i).env x = pure x) ∧ (∀ b, PTs (blkX X scope b) ifs tt) ∧ ∀ F H σ fps (Q : VK), EnvOk K F H σ G fps → L F H σ →
      (∀ F' H' v fp, Up F H F' H' → RepC K F' H' fp v (.ol (xs.filterMap fun x => if p x then some (f x) else none)) → (∀ a ∈ fp, H a = none ∧ F' a = none ∧ H' a ≠ none) → Q v H') →
      tLc wi g tt (wpE (blkX X scope) elt) (own.map (·.2)) σ H Q := by
  obtain ⟨wi, h1, h2, h3⟩ := hi
  obtain ⟨tt, ht1, ht2⟩ := ht
  refine ⟨wi, tt, h1, h2, ht1, fun F H σ fps Q Eo hL q => ?_⟩
  refine h3 F H σ fps _ Eo hL fun J F1 H1 u y D hD => ?_
  have E1 := Eo.up u
  have hF1 : F1 D = none := u.sb.none hD
  have kp_D : ∀ {H' : Hp}, ExO (fun a => a = D) H1 H' → Kp F1 H1 H' := fun k a o n z m => k.k a o (fun e => by subst e; exact n hF1) z m
  have nD : ∀ i, D ∉ fps i := fun i z => (E1.own i D z).2 hD
  let out : A → Option Dt := fun x => if p x then some (f x) else none
  let Pv : Nat → Hp → Prop := fun i H' => ∃ F' acc, Sub F' H' ∧ F' D = none ∧ H' D = some (.lst acc) ∧ Ex F1 F' ∧ ExO (fun a => a = D) H1 H' ∧ (∀ a, a ≠ D → F1 a = none → H1 a ≠ none → F' a = none) ∧ RepL K F' acc ((xs.take i).filterMap out)
  have envAt : ∀ i H', Pv i H' → ∃ F' acc, Sub F' H' ∧ F' D = none ∧ H' D = some (.lst acc) ∧ Ex F1 F' ∧ ExO (fun a => a = D) H1 H' ∧ (∀ a, a ≠ D → F1 a = none → H1 a ≠ none → F' a = none) ∧ RepL K F' acc ((xs.take i).filterMap out) ∧ EnvOk K F' H' (wipe σ (own.map (·.2))) (wipeG G (own.map (·.2))) fps := by
    rintro i H' ⟨F', acc, a1, a2, a3, a4, a5, a6, a7⟩
    refine ⟨F', acc, a1, a2, a3, a4, a5, a6, a7, wipe_env ⟨a1, E1.len, fun j c h => ?_, fun j a h => ?_, E1.dis, fun P h => ⟨a6 P (fun z => tab_there (E1.tab P h).2 (by rw [z]; exact hD)) (E1.tab P h).1 (tab_there (E1.tab P h).2), a5.t P (E1.tab P h).2⟩⟩ _⟩
    · obtain ⟨v, b1, b2⟩ := E1.ent j c h
      exact ⟨v, b1, RepC.mono a4 (fun a ha o z m => a5.k a o (fun e => nD j (e ▸ ha)) z m) b2⟩
    · obtain ⟨b1, b2⟩ := E1.own j a h
      have hne : a ≠ D := fun e => nD j (e ▸ h)
      exact ⟨a6 a hne b1 b2, a5.n a hne b2⟩
  refine ⟨fun i m H' => (m = xs.length - i ∧ i ≤ xs.length) ∧ Pv i H', ⟨xs.length, ⟨by omega, Nat.zero_le _⟩, F1, [], ?_, hF1, upd_same, Ex.refl F1, (ExO.of (Ex.new hD)).imp fun _ z => z.elim, fun a _ z _ => z, .nil⟩, ?_⟩
  · exact (Up.layH u.sb hD).sb
  rintro i m H' ⟨⟨rfl, hi⟩, pv⟩
  obtain ⟨F', acc, a1, a2, a3, a4, a5, a6, a7, Ei⟩ := envAt i H' pv
  by_cases hlt : i < xs.length
  · refine .inr ⟨y.go i F' H' a4 a1 (kp_D a5) (by rw [List.length_map]; exact hlt), fun H2 => Pv (i + 1) H2, fun H2 p2 => ⟨xs.length - (i + 1), by omega, ⟨rfl, hlt⟩, p2⟩, fun v H2 hy => ?_⟩
    have hx : xs[i]? = some xs[i] := by simp [hlt]
    have hm : xs[i] ∈ xs := List.getElem_mem hlt
    obtain ⟨F2, u2, r2⟩ := y.yld i (enc xs[i]) F' H' v H2 a4 a1 (kp_D a5) (by rw [List.getElem?_map, hx]; rfl) hy
    refine hB xs[i] F2 H2 _ fps v _ (Ei.up u2) r2 fun σ3 fps3 e3 l3 s3 le3 => ⟨wipe_same (l3.trans (wipe_length σ _)) (fun j hj => s3 j fun z => hj (hjs j z)), ?_⟩
    have tk : (xs.take (i + 1)).filterMap out = (xs.take i).filterMap out ++ (out xs[i]).toList := filterMap_take_succ out hx
    refine ht2 xs[i] hm F2 H2 σ3 fps3 _ e3 fun F3 H3 u3 => ?_
    have u23 := u2.trans u3
    have h3D : H3 D = some (.lst acc) := u23.hp.h a3
    have f3D : F3 D = none := u23.nw D a2 (by rw [a3]; simp)
    cases hp : p xs[i] with
    | true =>
      show wpE (blkX X scope) elt σ3 H3 _
      refine he xs[i] hm hp F3 H3 σ3 fps3 _ (e3.up u3) fun F4 H4 w u4 r4 => ⟨acc, u4.hp.h h3D, ?_, ?_⟩
      · have hle := filterMap_len out (xs.take i)
        rw [List.length_take] at hle
        have hlen := a7.len
        have := big_line
        omega
      · have u24 := u23.trans u4
        refine ⟨F4, acc ++ [w], ?_, u4.nw D f3D (by rw [h3D]; simp), upd_same, a4.trans u24.fr, (a5.then u24.hp).upd (u4.hp.h h3D) rfl rfl, fun a hne z z' => ?_, ?_⟩
        · intro a o z
          have hne : a ≠ D := fun e => by subst e; rw [u4.nw a f3D (by rw [h3D]; simp)] at z; cases z
          rcases u4.sb a o z with b | ⟨b, ob, b'⟩
          · exact .inl (by rw [upd_ne hne]; exact b)
          · exact .inr ⟨b, ob, by rw [upd_ne hne]; exact b'⟩
        · exact u24.nw a (a6 a hne z z') (a5.n a hne z')
        · rw [tk]
          have eo : out xs[i] = some (f xs[i]) := if_pos hp
          rw [eo]
          exact (a7.mono u24.fr).append (.cons r4 .nil)
    | false =>
      show Pv (i + 1) H3
      refine ⟨F3, acc, u3.sb, f3D, h3D, a4.trans u23.fr, a5.then u23.hp, fun a hne z z' => ?_, ?_⟩
      · exact u23.nw a (a6 a hne z z') (a5.n a hne z')
      · rw [tk]
        have eo : out xs[i] = none := if_neg (by rw [hp]; decide)
        rw [eo]
        show RepL K F3 acc (_ ++ [])
        rw [List.append_nil]
        exact a7.mono u23.fr
  · have hi2 : i = xs.length := by omega
    refine .inl ⟨y.stop i F' H' a4 a1 (kp_D a5) (by rw [List.length_map]; omega), ?_⟩
    have hD0 : H D = none := u.hp.free hD
    have hx : xs.take i = xs := by rw [hi2]; exact List.take_length
    rw [hx] at a7
    refine q F' H' (.ref D) [D] ⟨u.fr.trans a4, ExO.within u.hp a5 (fun a e => by rw [e]; exact hD0), fun a z z' => ?_, a1⟩ (.ol a3 ?_ a7) fun a ha => ?_
    · have hne : a ≠ D := fun e => by subst e; exact z' hD0
      exact a6 a hne (u.nw a z z') (u.hp.n a (fun y => y) z')
    · rw [a7.len]
      exact Nat.le_trans (filterMap_len _ _) hn
    · obtain rfl : a = D := by simpa using ha
      exact ⟨hD0, a2, by rw [a3]; simp⟩
/-- [elt for TARGET in SOURCE if ..] -/
theorem en_lc {A : Type} {X : I → Cx} {elt tg iter : Expr} {ifs : List Expr} {scope : Scope} {own : List (Str × Nat)} {pos : Pos} {g : TG} {js : List Nat} {xs : List A} (enc : A → Dt) (Gb : A → Env) (p : A → Bool) (f : A → Dt)
    (hc : ∀ i, (X i).calm = true) (hN : ∀ i, (X i).N.Nodup) (hi : ISrc X K G tg iter (xs.map enc)) (hn : xs.length ≤ big) (ok : ∀ i, BlkOk (X i).N (X i).env.scope scope own) (hjs : ∀ j ∈ js, j ∈ own.map (·.2))
    (hg : ∀ b, PG (blkX X scope b) tg g) (hB : ∀ x, Bd K g js (enc x) (wipeG G (own.map (·.2))) (Gb x))
    (ht : ∃ t : TT, (∀ i, PTs (blkX X scope i) ifs t) ∧ ∀ x, x ∈ xs → ∀ F H σ fps (Q : Bool → Hp → Prop), EnvOk K F H σ (Gb x) fps → (∀ F' H', Up F H F' H' → Q (p x) H') → t σ H Q)
    (he : ∀ x, x ∈ xs → p x = true → EX (blkX X scope) K (Gb x) elt (f x)) :
    EN X K G (.ListComp elt [⟨tg, iter, ifs, 0⟩] scope pos) (.ol (xs.filterMap fun x => if p x then some (f x) else none)) := fun F H σ fps Q Eo q => by
  obtain ⟨wi, tt, h1, h2, h3, h4⟩ := lc_readL (pos := pos) _ enc Gb p f hc hN hi.lk hn ok hjs hg hB ht he
  exact ⟨tLc wi g tt (wpE (blkX X scope) elt) (own.map (·.2)), fun i => pe_lc (hc i) (hN i) (h1 i) (ok i) (fun s H C cl fp => hg ⟨i, s, H, C, cl, fp⟩) (fun s H C cl fp => h3 ⟨i, s, H, C, cl, fp⟩) (fun s H C cl fp => pe_wp (X := blkX X scope) ⟨i, s, H, C, cl, fp⟩) (h2 i), h4 F H σ fps Q Eo trivial q⟩
/-- .. where something holds at the beginning -/
def ENL (L : Hp → Hp → L2.St → Prop) {I : Type} (X : I → Cx) (K : PySem.W.Frag) (G : Env) (e : Expr) (c : Cell) : Prop :=
  ∀ F H σ fps (Q : VK), EnvOk K F H σ G fps → L F H σ → (∀ F' H' v fp, Up F H F' H' → RepC K F' H' fp v c → (∀ a ∈ fp, H a = none ∧ F' a = none ∧ H' a ≠ none) → Q v H') → wpE X e σ H Q
theorem en_lcL (L : Hp → Hp → L2.St → Prop) {A : Type} {X : I → Cx} {elt tg iter : Expr} {ifs : List Expr} {scope : Scope} {own : List (Str × Nat)} {pos : Pos} {g : TG} {js : List Nat} {xs : List A} (enc : A → Dt) (Gb : A → Env) (p : A → Bool) (f : A → Dt)
    (hc : ∀ i, (X i).calm = true) (hN : ∀ i, (X i).N.Nodup) (hi : ISrcL L X K G tg iter (xs.map enc)) (hn : xs.length ≤ big) (ok : ∀ i, BlkOk (X i).N (X i).env.scope scope own) (hjs : ∀ j ∈ js, j ∈ own.map (·.2))
    (hg : ∀ b, PG (blkX X scope b) tg g) (hB : ∀ x, Bd K g js (enc x) (wipeG G (own.map (·.2))) (Gb x))
    (ht : ∃ t : TT, (∀ i, PTs (blkX X scope i) ifs t) ∧ ∀ x, x ∈ xs → ∀ F H σ fps (Q : Bool → Hp → Prop), EnvOk K F H σ (Gb x) fps → (∀ F' H', Up F H F' H' → Q (p x) H') → t σ H Q)
    (he : ∀ x, x ∈ xs → p x = true → EX (blkX X scope) K (Gb x) elt (f x)) :
    ENL L X K G (.ListComp elt [⟨tg, iter, ifs, 0⟩] scope pos) (.ol (xs.filterMap fun x => if p x then some (f x) else none)) := fun F H σ fps Q Eo hL q => by
  obtain ⟨wi, tt, h1, h2, h3, h4⟩ := lc_readL (pos := pos) L enc Gb p f hc hN hi hn ok hjs hg hB ht he
  exact ⟨tLc wi g tt (wpE (blkX X scope) elt) (own.map (·.2)), fun i => pe_lc (hc i) (hN i) (h1 i) (ok i) (fun s H C cl fp => hg ⟨i, s, H, C, cl, fp⟩) (fun s H C cl fp => h3 ⟨i, s, H, C, cl, fp⟩) (fun s H C cl fp => pe_wp (X := blkX X scope) ⟨i, s, H, C, cl, fp⟩) (h2 i), h4 F H σ fps Q Eo hL q⟩
end
end Vs

/-! Calls, promises, texts, slices, lists. -/
namespace Vs
open PySem PySem.Spec L2

/-! ### a def's promise over data -/
def spR (K : PySem.W.Frag) (n : Nat) (r : List Dt → Sum Cell Xc → Prop) : Sp := fun vs H Q E => ∃ F ds a, (Sub F H ∧ Tb K F H) ∧ RepL K F vs ds ∧ ds.length = n ∧ r ds a ∧ (match a with
  | .inl c => ∀ F' H' v fp, Up F H F' H' → RepC K F' H' fp v c → (∀ a ∈ fp, H a = none ∧ F' a = none ∧ H' a ≠ none) → Q v H'
  | .inr x => ∀ F' H' d, Up F H F' H' → XRep K F' d x.fs → E (.ref (He.ga K x.cls)) d H')
structure Callee (P : Program) (w : World) (K : PySem.W.Frag) (mg : Str → Option Value) (base : Heap) (x : Str) (k n : Nat) (r : List Dt → Sum Cell Xc → Prop) : Prop where
  ex : ∃ f fd ps, FnOk P w K mg base (L2.CX P w) k f fd ps (spR K n r) ∧ mg x = some (.ref f) ∧ PySem.W.keepIn K (.ref f) = true ∧ Binds K fd ps []
theorem Callee.imp {P : Program} {w : World} {K : PySem.W.Frag} {mg : Str → Option Value} {base : Heap} {x : Str} {k n : Nat} {r r' : List Dt → Sum Cell Xc → Prop} (c : Callee P w K mg base x k n r) (h : ∀ ds a, r' ds a → r ds a) : Callee P w K mg base x k n r' := by
  obtain ⟨f, fd, ps, h1, h2, h3, h4⟩ := c.ex
  exact ⟨f, fd, ps, h1.imp fun vs H Q E ⟨F, ds, a, a1, a2, a3, a4, a5⟩ => ⟨F, ds, a, a1, a2, a3, h ds a a4, a5⟩, h2, h3, h4⟩
/-- the contexts run in these surroundings -/
def Of {I : Type} (X : I → Cx) (P : Program) (w : World) (K : PySem.W.Frag) (mg : Str → Option Value) (base : Heap) : Prop := ∀ j, (X j).prog = P ∧ (X j).w = w ∧ (X j).K = K ∧ (X j).mg = mg ∧ (X j).base = base
section
variable {I : Type} {X : I → Cx} {K : PySem.W.Frag} {G : Env} {P : Program} {w : World} {mg : Str → Option Value} {base : Heap}
theorem en_call {x : Str} {k n : Nat} {r : List Dt → Sum Cell Xc → Prop} {p pos : Pos} {e : Expr} {es : List Expr} {ds : List Dt} {c : Cell} (C : Callee P w K mg base x k n r) (hX : Of X P w K mg base) (hr : ∀ j, Room k (X j).A) (hg : ∀ j, Gl (X j) x)
    (ha : EA X K G (e :: es) ds) (hn : ds.length = n) (hR : r ds (.inl c)) (hdb : (x == ("__debug__" : Str)) = false := by decide) (he : ∀ j, starEach (e :: es) (X j).env = (false, eval e (X j).env) :: starEach es (X j).env := by intro _; rfl)
    (hpl : ∀ j, (backTo pos (starEach es (X j).env)).any (·.1) = false := by intro _; rfl) : EN X K G (.Call (.Name x p) (e :: es) [] pos) c := fun F H σ fps Q Eo q => by
  obtain ⟨f, fd, ps, h1, h2, h3, h4⟩ := C.ex
  refine ⟨tCall (spR K n r) [] E0 (wpA X (e :: es)), fun j => ?_, ha F H σ fps _ Eo fun F1 H1 vs u rl => ?_⟩
  · obtain ⟨e1, e2, e3, e4, e5⟩ := hX j
    subst e1 e2 e3 e4 e5
    exact pe_call h1 (hr j) (hg j) h2 h3 h4 .nil passL (pa_wp j) hdb (he j) (hpl j)
  · rw [List.append_nil]
    exact ⟨F1, ds, .inl c, ⟨u.sb, Eo.tab.up u⟩, rl, hn, hR, fun F' H' v fp u' r' n' => q F' H' v fp (u.trans u') r' fun a ha => ⟨u.hp.free (n' a ha).1, (n' a ha).2.1, (n' a ha).2.2⟩⟩
theorem EN.fz0 {e : Expr} {d : Dt} (h : EN X K G e (.fz d)) : EX X K G e d := fun F H σ fps Q Eo q => h F H σ fps Q Eo fun F' H' v fp u r n => q F' H' v u r.there.2
theorem ex_call {x : Str} {k n : Nat} {r : List Dt → Sum Cell Xc → Prop} {p pos : Pos} {e : Expr} {es : List Expr} {ds : List Dt} {d : Dt} (C : Callee P w K mg base x k n r) (hX : Of X P w K mg base) (hr : ∀ j, Room k (X j).A) (hg : ∀ j, Gl (X j) x)
    (ha : EA X K G (e :: es) ds) (hn : ds.length = n) (hR : r ds (.inl (.fz d))) (hdb : (x == ("__debug__" : Str)) = false := by decide) (he : ∀ j, starEach (e :: es) (X j).env = (false, eval e (X j).env) :: starEach es (X j).env := by intro _; rfl)
    (hpl : ∀ j, (backTo pos (starEach es (X j).env)).any (·.1) = false := by intro _; rfl) : EX X K G (.Call (.Name x p) (e :: es) [] pos) d := (en_call C hX hr hg ha hn hR hdb he hpl).fz0
end

/-- the names' data at a def's entry -/
def start0 (N : List Str) (ds : List Dt) : Env := ds.map (fun d => some (.fz d)) ++ List.replicate (N.length - ds.length) none
theorem start_ok {K : PySem.W.Frag} {F H : Hp} {N : List Str} {vs : List V} {ds : List Dt} (s : Sub F H ∧ Tb K F H) (r : RepL K F vs ds) : EnvOk K F H (L2.start N vs) (start0 N ds) (fun _ => []) := by
  refine ⟨s.1, by unfold L2.start start0; simp [r.len], fun i c h => ?_, fun i a h => by simp at h, fun i j a h => by simp at h, s.2⟩
  unfold start0 at h
  unfold L2.start
  by_cases hi : i < ds.length
  · rw [List.getElem?_append_left (by simpa using hi), List.getElem?_map] at h
    have e1 : ds[i]? = some ds[i] := by simp [hi]
    rw [e1] at h
    cases h
    obtain ⟨v, h1, h2⟩ := r.get e1
    refine ⟨v, ?_, .fz h2⟩
    rw [List.getElem?_append_left (by simp [r.len, hi]), List.getElem?_map, h1]
    rfl
  · rw [List.getElem?_append_right (by simpa using Nat.le_of_not_lt hi)] at h
    rw [List.getElem?_replicate] at h
    split at h <;> cases h
/-- what an outcome says of a call -/
inductive OutIs : Out → Sum Cell Xc → Prop
  | rt (c : Cell) : OutIs (.rt c none) (.inl c)
  | nx (G : Env) : OutIs (.nx G) (.inl (.fz .non))
  | xc (x : Xc) (G : Env) : OutIs (.xc x G) (.inr x)
section
variable {P : Program} {w : World} {K : PySem.W.Frag} {mg : Str → Option Value} {base : Heap}
abbrev wE (E : XK) : WX := fun cls d _ H => E cls d H
theorem fnOk_mk {x qual : Str} {params : Arguments} {body : List Stmt} {scope : Scope} {f : Addr} {fd : FuncData} {N ps : List Str} {k : Nat} {r : List Dt → Sum Cell Xc → Prop} {dvs : List V} {kws : List (Str × V)} (F : FunD K x qual params body scope dvs kws f fd) (S : FnScope N ps scope)
    (h : ∀ (cdv : Value) (A : Around) (outer : List PySem.Env) (s : Shared) (H : Hp) (E : XK) (ds : List Dt) (a : Sum Cell Xc), Room k (A.deeper (PyProof.Rows.envOfC qual scope s.heap.objs.size f cdv)) → r ds a → ds.length = ps.length →
      ∃ o, OutIs o a ∧ Run (cxOf (L2.CX P w) P w K mg base N qual scope f cdv A outer s H E) K (wE E) sv0 body (start0 N ds) o) : FnOk P w K mg base (L2.CX P w) (k + 1) f fd ps (spR K ps.length r) := by
  refine F.ok S (fun vs H Q E ⟨F', ds, a, _, rl, hn, _⟩ => by rw [rl.len, hn]) fun cdv A outer s H vs Q E hr ⟨F', ds, a, hs, rl, hn, hR, hq⟩ => ?_
  obtain ⟨o, ho, run⟩ := h cdv A outer s H E ds a hr hR hn
  have := run F' H (L2.start N vs) (fun _ => []) { nx := fun _ H' => Q .non H', rt := Q } (start_ok hs rl) (fun v e => nomatch e) ?_
  · exact this
  · cases ho with
    | rt c =>
      intro F2 H2 v fp s2 l rc n
      refine hq F2 H2 v fp ⟨l.fr, l.hp.imp (fun a ⟨i, z⟩ => by simp at z), fun a z z' => l.nw a (fun ⟨i, z⟩ => by simp at z) z z', s2⟩ rc fun a ha => ⟨?_, n a ha⟩
      rcases l.ow a ha with ⟨i, z⟩ | z
      · simp at z
      · exact z
    | nx G =>
      intro F2 H2 σ' fps' e' _ l
      exact hq F2 H2 .non [] ⟨l.fr, l.hp.imp (fun a ⟨i, z⟩ => by simp at z), fun a z z' => l.nw a (fun ⟨i, z⟩ => by simp at z) z z', e'.sub⟩ (.fz .non) fun a ha => by simp at ha
    | xc x G =>
      intro F2 H2 σ' fps' d e' _ l xr
      exact hq F2 H2 d ⟨l.fr, l.hp.imp (fun a ⟨i, z⟩ => by simp at z), fun a z z' => l.nw a (fun ⟨i, z⟩ => by simp at z) z z', e'.sub⟩ xr
end
end Vs

/-! isinstance, texts, slices, lists, dicts. -/
namespace Vs
open PySem PySem.Spec L2

/-! ### isinstance, a built-in type -/
def Dt.ty : Dt → String
  | .non => "NoneType"
  | .bl _ => "bool"
  | .int _ => "int"
  | .str _ => "str"
  | .lst _ => "list"
  | .tup _ => "tuple"
  | .dic _ => "dict"
  | .dit _ => "dict"
  | .ins _ _ => "object"
  | .scr _ => "list"
def Dt.plain : Dt → Bool
  | .ins _ _ => false
  | .dit _ => false
  | _ => true
theorem rep_ty {K : PySem.W.Frag} {F H : Hp} (s : Sub F H) {v : V} {d : Dt} (r : Rep K F v d) (h : d.plain = true) : TyX K H v (.type d.ty) := by
  cases r with
  | non => exact .base .non
  | bl b => exact .base (.bl b)
  | int i => exact .base (.int i)
  | str x _ => exact .base (.str x)
  | lst h1 _ _ => exact .base (.lst (s.lst h1))
  | tup h1 _ _ => exact .base (.tup (s.tup h1))
  | dic h1 _ _ _ =>
    rcases s _ _ h1 with z | ⟨_, ob, z⟩
    · exact .base (.dK z)
    · exact .fDict z
  | dit _ _ _ _ => cases h
  | ins _ _ => cases h
  | scr h1 _ _ =>
    rcases s.sql h1 with (z | ⟨ob, z⟩) | ⟨o, its, n, z1, z2, _⟩
    · exact .base (.lst z)
    · exact .base (.frz z)
    · exact .kList z1 z2
section
variable {I : Type} {X : I → Cx} {K : PySem.W.Frag} {G : Env}
theorem ex_isTy {e : Expr} {d : Dt} {T : Str} {n : String} {b : Bool} {p p2 pos : Pos} (hK : ∀ j, (X j).K = K) (h : EX X K G e d) (hp : d.plain = true) (hk : kitB d.ty n = some b) (hg : ∀ j, Gl (X j) "isinstance") (hm : ∀ j, (X j).mg "isinstance" = none)
    (hgT : ∀ j, Gl (X j) T) (hmT : ∀ j, (X j).mg T = none) (hvT : bootBuiltins T = some (.type n)) (hTn : T ≠ "__name__" := by decide) (hTd : (T == ("__debug__" : Str)) = false := by decide)
    (he : ∀ j, starEach [e, .Name T p2] (X j).env = (false, eval e (X j).env) :: starEach [.Name T p2] (X j).env := by intro _; rfl) (he2 : ∀ j, starEach [.Name T p2] (X j).env = [(false, eval (.Name T p2) (X j).env)] := by intro _; rfl)
    (hpl : ∀ j, (backTo pos (starEach [.Name T p2] (X j).env)).any (·.1) = false := by intro _; rfl) : EX X K G (.Call (.Name "isinstance" p) [e, .Name T p2] [] pos) (.bl b) := fun F H σ fps Q k q =>
  ⟨tCB (rIsi K) (tCons (wpE X e) (tCons (tC (.ty n)) tNil)), fun j => by
      have c : CallR (X j) (.builtin "isinstance") (rIsi K) := hK j ▸ call_isi
      exact pe_callB c (hg j) (hm j) (by decide +kernel) (pa_cons (pe_wp j) (pa_cons (pe_bltn (hgT j) (hmT j) hvT rfl hTn hTd) pa_nil (he2 j)) (he j)) (by decide) (by decide) (he j) (hpl j),
    h F H σ fps _ k fun F1 H1 v u r => ⟨v, .ty n, _, _, b, rfl, .ty n, rep_ty u.sb r hp, kit_ty hk, q F1 H1 _ u (.bl b)⟩⟩

/-! ### chains: a <= b <= c on ints -/
theorem ex_chainI {op op' : CmpOp} {f g : Int → Int → Bool} {a b c : Expr} {pos : Pos} {i j k : Int} (ho : ∀ n, OpR (X n) (compareOp op) (rI0 fun i j => .bl (f i j))) (ho' : ∀ n, OpR (X n) (compareOp op') (rI0 fun i j => .bl (g i j)))
    (ha : EX X K G a (.int i)) (hb : EX X K G b (.int j)) (hc : EX X K G c (.int k)) (hm : lastMarks [op, op'] [b, c] = false) : EX X K G (.Compare a [op, op'] [b, c] pos) (.bl (f i j && g j k)) := fun F H σ fps Q e q =>
  ⟨tChain (rI0 fun i j => .bl (f i j)) (rI0 fun i j => .bl (g i j)) (wpE X a) (wpE X b) (wpE X c), fun n => pe_chain (ho n) (ho' n) (pe_wp n) (pe_wp n) (pe_wp n) hm, ha F H σ fps _ e fun F1 H1 v u r => hb F1 H1 σ fps _ (e.up u) fun F2 H2 v2 u2 r2 => by
    cases r; cases r2
    refine ⟨i, j, rfl, rfl, f i j, rfl, ?_⟩
    cases hf : f i j with
    | true =>
      show wpE X c σ H2 _
      refine hc F2 H2 σ fps _ ((e.up u).up u2) fun F3 H3 v3 u3 r3 => ?_
      cases r3
      refine ⟨j, k, rfl, rfl, ?_⟩
      have := q F3 H3 (.bl (f i j && g j k)) ((u.trans u2).trans u3) (.bl _)
      rw [hf] at this
      exact this
    | false =>
      show Q (.bl false) H2
      have := q F2 H2 (.bl (f i j && g j k)) (u.trans u2) (.bl _)
      rw [hf] at this
      exact this⟩
theorem ex_leLe {a b c : Expr} {pos : Pos} {i j k : Int} (ha : EX X K G a (.int i)) (hb : EX X K G b (.int j)) (hc : EX X K G c (.int k)) (hm : lastMarks [.LtE, .LtE] [b, c] = false := by rfl) : EX X K G (.Compare a [.LtE, .LtE] [b, c] pos) (.bl (decide (i ≤ j) && decide (j ≤ k))) := ex_chainI (f := fun i j => decide (i ≤ j)) (g := fun i j => decide (i ≤ j)) (fun _ => op_le) (fun _ => op_le) ha hb hc hm
theorem ex_leLt {a b c : Expr} {pos : Pos} {i j k : Int} (ha : EX X K G a (.int i)) (hb : EX X K G b (.int j)) (hc : EX X K G c (.int k)) (hm : lastMarks [.LtE, .Lt] [b, c] = false := by rfl) : EX X K G (.Compare a [.LtE, .Lt] [b, c] pos) (.bl (decide (i ≤ j) && decide (j < k))) := ex_chainI (f := fun i j => decide (i ≤ j)) (g := fun i j => decide (i < j)) (fun _ => op_le) (fun _ => op_lt) ha hb hc hm
theorem ex_ltLt {a b c : Expr} {pos : Pos} {i j k : Int} (ha : EX X K G a (.int i)) (hb : EX X K G b (.int j)) (hc : EX X K G c (.int k)) (hm : lastMarks [.Lt, .Lt] [b, c] = false := by rfl) : EX X K G (.Compare a [.Lt, .Lt] [b, c] pos) (.bl (decide (i < j) && decide (j < k))) := ex_chainI (f := fun i j => decide (i < j)) (g := fun i j => decide (i < j)) (fun _ => op_lt) (fun _ => op_lt) ha hb hc hm

theorem eb_chainI {op op' : CmpOp} {f g : Int → Int → Bool} {a b c : Expr} {pos : Pos} {i j k : Int} (ho : ∀ n, OpR (X n) (compareOp op) (rI0 fun i j => .bl (f i j))) (ho' : ∀ n, OpR (X n) (compareOp op') (rI0 fun i j => .bl (g i j)))
    (ha : EX X K G a (.int i)) (hb : EX X K G b (.int j)) (hc : EX X K G c (.int k)) (hm : lastMarks [op, op'] [b, c] = false) : EB X K G (.Compare a [op, op'] [b, c] pos) (f i j && g j k) := fun F H σ fps Q e q =>
  ⟨fun σ H Q => tChain (rI0 fun i j => .bl (f i j)) (rI0 fun i j => .bl (g i j)) (wpE X a) (wpE X b) (wpE X c) σ H fun z H' => ∃ k, z = .bl k ∧ Q k H', fun n => pt_chain (ho n) (ho' n) (pe_wp n) (pe_wp n) (pe_wp n) hm, ha F H σ fps _ e fun F1 H1 v u r => hb F1 H1 σ fps _ (e.up u) fun F2 H2 v2 u2 r2 => by
    cases r; cases r2
    refine ⟨i, j, rfl, rfl, f i j, rfl, ?_⟩
    cases hf : f i j with
    | true =>
      show wpE X c σ H2 _
      refine hc F2 H2 σ fps _ ((e.up u).up u2) fun F3 H3 v3 u3 r3 => ?_
      cases r3
      refine ⟨j, k, rfl, rfl, ?_⟩
      have := q F3 H3 ((u.trans u2).trans u3)
      rw [hf] at this
      exact ⟨_, rfl, this⟩
    | false =>
      have := q F2 H2 (u.trans u2)
      rw [hf] at this
      exact ⟨_, rfl, this⟩⟩
theorem eb_leLe {a b c : Expr} {pos : Pos} {i j k : Int} (ha : EX X K G a (.int i)) (hb : EX X K G b (.int j)) (hc : EX X K G c (.int k)) (hm : lastMarks [.LtE, .LtE] [b, c] = false := by rfl) : EB X K G (.Compare a [.LtE, .LtE] [b, c] pos) (decide (i ≤ j) && decide (j ≤ k)) := eb_chainI (f := fun i j => decide (i ≤ j)) (g := fun i j => decide (i ≤ j)) (fun _ => op_le) (fun _ => op_le) ha hb hc hm
theorem eb_leLt {a b c : Expr} {pos : Pos} {i j k : Int} (ha : EX X K G a (.int i)) (hb : EX X K G b (.int j)) (hc : EX X K G c (.int k)) (hm : lastMarks [.LtE, .Lt] [b, c] = false := by rfl) : EB X K G (.Compare a [.LtE, .Lt] [b, c] pos) (decide (i ≤ j) && decide (j < k)) := eb_chainI (f := fun i j => decide (i ≤ j)) (g := fun i j => decide (i < j)) (fun _ => op_le) (fun _ => op_lt) ha hb hc hm
theorem eb_ltLt {a b c : Expr} {pos : Pos} {i j k : Int} (ha : EX X K G a (.int i)) (hb : EX X K G b (.int j)) (hc : EX X K G c (.int k)) (hm : lastMarks [.Lt, .Lt] [b, c] = false := by rfl) : EB X K G (.Compare a [.Lt, .Lt] [b, c] pos) (decide (i < j) && decide (j < k)) := eb_chainI (f := fun i j => decide (i < j)) (g := fun i j => decide (i < j)) (fun _ => op_lt) (fun _ => op_lt) ha hb hc hm

/-! ### constants of the module -/
theorem ex_gstr {x z : Str} {pos : Pos} (hg : ∀ j, Gl (X j) x) (hm : ∀ j, ∃ t, (X j).mg x = some (.str z t)) (hz : goodB z = true := by decide +kernel) (hd : (x == ("__debug__" : Str)) = false := by decide) : EX X K G (.Name x pos) (.str z) := fun F H σ fps Q e q =>
  ⟨tC (.str z), fun j => by
    obtain ⟨t, h⟩ := hm j
    exact pe_glob (hg j) h ⟨t, rfl⟩ hd, q F H _ (Up.refl e.sub) (.str z hz)⟩
theorem ex_gint {x : Str} {i : Int} {pos : Pos} (hg : ∀ j, Gl (X j) x) (hm : ∀ j, ∃ t, (X j).mg x = some (.int i t)) (hd : (x == ("__debug__" : Str)) = false := by decide) : EX X K G (.Name x pos) (.int i) := fun F H σ fps Q e q =>
  ⟨tC (.int i), fun j => by
    obtain ⟨t, h⟩ := hm j
    exact pe_glob (hg j) h ⟨t, rfl⟩ hd, q F H _ (Up.refl e.sub) (.int i)⟩

/-! ### slices -/
/-- a part of a slice -/
def EO (X : I → Cx) (K : PySem.W.Frag) (G : Env) (e : Option Expr) (o : Option Int) : Prop :=
  ∃ t : TO, (∀ i, PO (X i) e t) ∧ ∀ F H σ fps (Q : Option Int → Hp → Prop), EnvOk K F H σ G fps → (∀ F' H', Up F H F' H' → Q o H') → t σ H Q
theorem eo_none : EO X K G none none := ⟨tNoPart, fun _ => po_none, fun F H σ fps Q e q => q F H (Up.refl e.sub)⟩
theorem eo_some {e : Expr} {i : Int} (h : EX X K G e (.int i)) : EO X K G (some e) (some i) := ⟨tPart (wpE X e), fun j => po_some (pe_wp j), fun F H σ fps Q k q => h F H σ fps _ k fun F1 H1 v u r => by
  cases r
  exact ⟨i, rfl, q F1 H1 u⟩⟩
theorem len_cutS (z : Str) (lo hi : Option Int) : (cutS z lo hi).length ≤ z.length := by
  show (List.toArray _).size ≤ z.cps.size
  rw [List.size_toArray, List.length_take, List.length_drop, Array.length_toList]
  omega
theorem ex_sliceS {a : Expr} {lo hi : Option Expr} {p2 pos : Pos} {s : Str} {l h : Option Int} (ha : EX X K G a (.str s)) (hl : EO X K G lo l) (hh : EO X K G hi h) : EX X K G (.Subscript a (.Slice lo hi none p2) pos) (.str (cutS s l h)) := fun F H σ fps Q k q => by
  obtain ⟨tl, l1, l2⟩ := hl
  obtain ⟨th, h1, h2⟩ := hh
  refine ⟨tSl rSlS (wpE X a) tl th, fun j => pe_slice sl_str (pe_wp j) (l1 j) (h1 j), ha F H σ fps _ k fun F1 H1 v u r => l2 F1 H1 σ fps _ (k.up u) fun F2 H2 u2 => h2 F2 H2 σ fps _ ((k.up u).up u2) fun F3 H3 u3 => ?_⟩
  cases r with
  | str _ z => exact ⟨s, rfl, good_line z, q F3 H3 _ ((u.trans u2).trans u3) (.str _ (good_sub z (len_cutS s l h) fun c hc => List.mem_of_mem_drop (List.mem_of_mem_take (show c ∈ ((s.cps.toList.drop _).take _) from hc))))⟩
theorem cutV_len {A : Type} (xs : List A) (lo hi : Option Int) : ((xs.drop (HT.sIx xs.length 0 lo)).take (HT.sIx xs.length xs.length hi - HT.sIx xs.length 0 lo)).length ≤ xs.length := by
  rw [List.length_take, List.length_drop]; omega
/-- the data of a slice -/
def cut {A : Type} (xs : List A) (lo hi : Option Int) : List A := (xs.drop (HT.sIx xs.length 0 lo)).take (HT.sIx xs.length xs.length hi - HT.sIx xs.length 0 lo)
theorem cut_map {A B : Type} (f : A → B) (xs : List A) (lo hi : Option Int) : cut (xs.map f) lo hi = (cut xs lo hi).map f := by
  unfold cut
  rw [List.length_map, ← List.map_drop, ← List.map_take]
theorem en_sliceL {a : Expr} {lo hi : Option Expr} {p2 pos : Pos} {ds : List Dt} {l h : Option Int} (hK : ∀ j, (X j).K = K) (ha : ES X K G a false ds) (hl : EO X K G lo l) (hh : EO X K G hi h) : EN X K G (.Subscript a (.Slice lo hi none p2) pos) (.ol (cut ds l h)) := fun F H σ fps Q k q => by
  obtain ⟨tl, l1, l2⟩ := hl
  obtain ⟨th, h1, h2⟩ := hh
  refine ⟨tSl (rSlL K) (wpE X a) tl th, fun j => pe_slice (hK j ▸ sl_list) (pe_wp j) (l1 j) (h1 j), ha F H σ fps _ k fun F1 H1 p vs u r z rl => l2 F1 H1 σ fps _ (k.up u) fun F2 H2 u2 => h2 F2 H2 σ fps _ ((k.up u).up u2) fun F3 H3 u3 => ?_⟩
  have u23 := u2.trans u3
  refine ⟨p, vs, rfl, ExO.sql u23.hp (by simpa using r), fun D hD => ?_⟩
  have e1 : RepL K F3 (cutV vs l h) (cut ds l h) := by
    unfold cutV cut
    rw [rl.len]
    exact ((rl.mono u23.fr).drop _).take _
  have n0 : H D = none := (u.trans u23).hp.free hD
  refine q F3 (upd H3 D (.lst (cutV vs l h))) (.ref D) [D] ((u.trans u23).trans (Up.layH u3.sb hD)) (.ol upd_same ?_ e1) fun a ha => ?_
  · unfold cutV
    exact Nat.le_trans (cutV_len vs l h) z
  · obtain rfl : a = D := by simpa using ha
    exact ⟨n0, u3.sb.none hD, by rw [upd_same]; simp⟩
/-- xs + ys, two lists -/
theorem en_catL {a b : Expr} {pos : Pos} {ds es : List Dt} (ha : EX X K G a (.lst ds)) (hb : EX X K G b (.lst es)) (hn : ds.length + es.length ≤ big) : EN X K G (.BinOp a .Add b pos) (.ol (ds ++ es)) := fun F H σ fps Q k q =>
  ⟨tOp rCat (wpE X a) (wpE X b), fun j => pe_op op_cat (pe_wp j) (pe_wp j), ha F H σ fps _ k fun F1 H1 v u r => hb F1 H1 σ fps _ (k.up u) fun F2 H2 w u2 r2 => by
    cases r with
    | lst h1 l1 r1 => cases r2 with
      | lst h2 l2 r2 =>
        rename_i a vs b ws
        have hl : vs.length + ws.length ≤ big := by rw [r1.len, r2.len]; exact hn
        refine ⟨a, b, vs, ws, rfl, rfl, u2.hp.h (u.sb.lst h1), u2.sb.lst h2, Nat.le_trans hl big_line, fun D hD => ?_⟩
        have n0 : H D = none := (u.trans u2).hp.free hD
        refine q F2 (upd H2 D (.lst (vs ++ ws))) (.ref D) [D] ((u.trans u2).trans (Up.layH u2.sb hD)) (.ol upd_same (by rw [List.length_append]; exact hl) ((r1.mono u2.fr).append r2)) fun a ha => ?_
        obtain rfl : a = D := by simpa using ha
        exact ⟨n0, u2.sb.none hD, by rw [upd_same]; simp⟩⟩
/-- list(xs), tuple(xs) -/
theorem en_list {e : Expr} {p pos : Pos} {tu : Bool} {ds : List Dt} (hK : ∀ j, (X j).K = K) (h : ES X K G e tu ds) (hg : ∀ j, Gl (X j) "list") (hm : ∀ j, (X j).mg "list" = none)
    (he : ∀ j, starEach [e] (X j).env = [(false, eval e (X j).env)] := by intro _; rfl) : EN X K G (.Call (.Name "list" p) [e] [] pos) (.ol ds) := fun F H σ fps Q k q =>
  ⟨tCB (fun xs H Q => ∃ p ys, xs = [V.ref p] ∧ (SqL K H p ys ∨ SqT K H p ys) ∧ ∀ l, H l = none → Q (.ref l) (upd H l (.lst ys))) (tCons (wpE X e) tNil), fun j => hK j ▸ pe_callTy call_list_of (hg j) (hm j) (by decide +kernel) (pa_cons (pe_wp j) pa_nil (he j)) (by decide) (by decide) (he j) rfl, h F H σ fps _ k fun F1 H1 p vs u r l rl => by
    refine ⟨p, vs, rfl, ?_, fun D hD => ?_⟩
    · cases tu with
      | true => exact .inr r
      | false => exact .inl r
    · have n0 : H D = none := u.hp.free hD
      refine q F1 (upd H1 D (.lst vs)) (.ref D) [D] (u.trans (Up.layH u.sb hD)) (.ol upd_same l rl) fun a ha => ?_
      obtain rfl : a = D := by simpa using ha
      exact ⟨n0, u.sb.none hD, by rw [upd_same]; simp⟩⟩
theorem ex_tupL {e : Expr} {p pos : Pos} {ds : List Dt} (hK : ∀ j, (X j).K = K) (h : ES X K G e false ds) (hg : ∀ j, Gl (X j) "tuple") (hm : ∀ j, (X j).mg "tuple" = none)
    (he : ∀ j, starEach [e] (X j).env = [(false, eval e (X j).env)] := by intro _; rfl) : EX X K G (.Call (.Name "tuple" p) [e] [] pos) (.tup ds) := fun F H σ fps Q k q =>
  ⟨tCB (fun xs H Q => ∃ p ys, xs = [V.ref p] ∧ ((SqL K H p ys ∧ ∀ l, H l = none → Q (.ref l) (upd H l (.tup ys))) ∨ (SqT K H p ys ∧ Q (.ref p) H))) (tCons (wpE X e) tNil), fun j => hK j ▸ pe_callTy call_tuple_of (hg j) (hm j) (by decide +kernel) (pa_cons (pe_wp j) pa_nil (he j)) (by decide) (by decide) (he j) rfl, h F H σ fps _ k fun F1 H1 p vs u r l rl => by
    refine ⟨p, vs, rfl, .inl ⟨by simpa using r, fun D hD => ?_⟩⟩
    exact q (upd F1 D (.tup vs)) (upd H1 D (.tup vs)) _ (u.trans (Up.lay u.sb hD)) (.tup upd_same l (rl.mono (Ex.new (u.sb.none hD))))⟩

/-! ### methods of texts -/
theorem ex_m1 {o e : Expr} {name : Str} {id : String} {apos pos : Pos} {r : V → List V → Hp → VK → Prop} {s : Str} {d z : Dt} (slot : Slot "str" name id) (ty : typeOf (.builtin id) = pure (.type "method_descriptor")) (rule : ∀ j, MtR (X j) id r) (ho : EX X K G o (.str s)) (he : EX X K G e d)
    (hr : ∀ F H w (Q : VK), Sub F H → Rep K F w d → goodB s = true → (∀ F' H' u, Up F H F' H' → Rep K F' u z → Q u H') → r (.str s) [w] H Q)
    (hT : ∀ j, PE (X j) (.Call (.Attribute o name apos) [e] [] pos) (tM1 r (wpE X o) (wpE X e))) : EX X K G (.Call (.Attribute o name apos) [e] [] pos) z := fun F H σ fps Q k q =>
  ⟨tM1 r (wpE X o) (wpE X e), hT, ho F H σ fps _ k fun F1 H1 v u r1 => by
    cases r1 with
    | str _ l => exact ⟨⟨s, rfl⟩, he F1 H1 σ fps _ (k.up u) fun F2 H2 w u2 r2 => hr F2 H2 w Q u2.sb r2 l fun F3 H3 x u3 r3 => q F3 H3 x ((u.trans u2).trans u3) r3⟩⟩
end
end Vs

/-! Short words for printed proofs. -/
namespace Vs
open PySem PySem.Spec L2
section
variable {I : Type} {X : I → Cx} {K : PySem.W.Frag} {G : Env}
theorem xv (i : Nat) {x : Str} {pos : Pos} {d : Dt} (hg : G[i]? = some (some (.fz d))) (hN : ∀ j, (X j).N[i]? = some x := by intro _; rfl) (hv : ∀ j, Vis (X j).env.scope x := by intro _; first | exact Or.inl rfl | exact Or.inr (Or.inl rfl) | exact Or.inr (Or.inr rfl))
    (hd : (x == ("__debug__" : Str)) = false := by decide) (hcd : (x == ("__classdict__" : Str)) = false := by decide) : EX X K G (.Name x pos) d := ex_var hg hN hv hd hcd
theorem sv (i : Nat) {x : Str} {pos : Pos} {ds : List Dt} (hg : G[i]? = some (some (.ol ds))) (hN : ∀ j, (X j).N[i]? = some x := by intro _; rfl) (hv : ∀ j, Vis (X j).env.scope x := by intro _; first | exact Or.inl rfl | exact Or.inr (Or.inl rfl) | exact Or.inr (Or.inr rfl))
    (hd : (x == ("__debug__" : Str)) = false := by decide) (hcd : (x == ("__classdict__" : Str)) = false := by decide) : ES X K G (.Name x pos) false ds := es_var hg hN hv hd hcd
/-- an own dict, a text's sign, .. by their words -/
def sgn (s : Str) (i : Int) : Str := ⟨#[(atI s.cps.toList i).getD 0]⟩
theorem x_ixS {a b : Expr} {pos : Pos} {s : Str} {i : Int} (ha : EX X K G a (.str s)) (hb : EX X K G b (.int i)) (hi : (atI s.cps.toList i).isSome = true) (hs : PlainIx b := by exact fun _ _ => rfl) : EX X K G (.Subscript a b pos) (.str (sgn s i)) := by
  cases e : atI s.cps.toList i with
  | none => rw [e] at hi; cases hi
  | some c =>
    have : sgn s i = ⟨#[c]⟩ := by unfold sgn; rw [e]; rfl
    rw [this]
    exact ex_ixS ha hb e hs
/-- the item at a place -/
def itm {A : Type} [Inhabited A] (xs : List A) (i : Int) : A := (atI xs i).getD default
def inI {A : Type} (xs : List A) (i : Int) : Bool := (ixN xs.length i).isSome
theorem ixN_lt {n : Nat} {i : Int} {j : Nat} (h : ixN n i = some j) : j < n := (ixN_seq h).2.1
theorem atI_map {A B : Type} (f : A → B) (xs : List A) (i : Int) : atI (xs.map f) i = (atI xs i).map f := by
  unfold atI
  rw [List.length_map]
  cases e : ixN xs.length i with
  | none => rfl
  | some j =>
    show (xs.map f)[j]? = (xs[j]?).map f
    rw [List.getElem?_map]
theorem atI_itm {A : Type} [Inhabited A] {xs : List A} {i : Int} (h : inI xs i = true) : atI xs i = some (itm xs i) := by
  unfold inI at h
  unfold itm atI
  cases e : ixN xs.length i with
  | none => rw [e] at h; cases h
  | some j =>
    have hj := ixN_lt e
    show xs[j]? = some ((xs[j]?).getD default)
    rw [List.getElem?_eq_getElem hj]
    rfl
theorem x_ix {A : Type} [Inhabited A] {a b : Expr} {pos : Pos} {tu : Bool} {xs : List A} {i : Int} (f : A → Dt) (hK : ∀ j, (X j).K = K) (ha : ES X K G a tu (xs.map f)) (hb : EX X K G b (.int i)) (hi : inI xs i = true) (hs : PlainIx b := by exact fun _ _ => rfl) : EX X K G (.Subscript a b pos) (f (itm xs i)) :=
  ex_ix hK ha hb (by rw [atI_map, atI_itm hi]; rfl) hs
/-- the written place of a tuple -/
theorem x_ixT {a b : Expr} {pos : Pos} {tu : Bool} {ds : List Dt} {i : Int} {d : Dt} (hK : ∀ j, (X j).K = K) (ha : ES X K G a tu ds) (hb : EX X K G b (.int i)) (hi : atI ds i = some d := by rfl) (hs : PlainIx b := by exact fun _ _ => rfl) : EX X K G (.Subscript a b pos) d :=
  ex_ix hK ha hb hi hs
end
section
variable {X : Cx} {K : PySem.W.Frag} {W : WX} {sv : Sv} {G : Env} {rest : List Stmt} {o : Out} {pos : Pos}
/-- x = e, what follows told of any value with P -/
theorem run_asgP {B : Type} {i : Nat} {x : Str} {e : Expr} {pos' : Pos} {v : B} (enc : B → Dt) (oF : B → Out) (P : B → Prop) (h : EX (one X) K G e (enc v)) (hp : P v) (hN : X.N.Nodup) (k : ∀ y, P y → Run X K W sv rest (G.set i (some (.fz (enc y)))) (oF y))
    (hi : X.N[i]? = some x := by rfl) (hx : Loc X.env.scope x := by first | exact Or.inl rfl | exact Or.inr rfl) (hl : Nat.blt i G.length = true := by rfl) (hv : memN sv.ks i = false := by rfl)
    (hs : swapsWith e (some (.Name x pos')) pos.line X.env = pure false := by rfl) (hf : X.fn x = true ∨ X.env.scope.names.lookup x = some .local := by first | exact .inl rfl | exact .inr rfl | assumption) (ho : oF v = o := by rfl) :
    Run X K W sv (.Assign [.Name x pos'] e pos :: rest) G o := ho ▸ run_asg h hN hi hx (Nat.blt_eq.mp hl) hv (k v hp) hs hf
theorem run_asgD {i : Nat} {x : Str} {e : Expr} {pos' : Pos} {d : Dt} (h : EX (one X) K G e d) (hN : X.N.Nodup) (k : Run X K W sv rest (G.set i (some (.fz d))) o)
    (hi : X.N[i]? = some x := by rfl) (hx : Loc X.env.scope x := by first | exact Or.inl rfl | exact Or.inr rfl) (hl : Nat.blt i G.length = true := by rfl) (hv : memN sv.ks i = false := by rfl)
    (hs : swapsWith e (some (.Name x pos')) pos.line X.env = pure false := by rfl) (hf : X.fn x = true ∨ X.env.scope.names.lookup x = some .local := by first | exact .inl rfl | exact .inr rfl | assumption) :
    Run X K W sv (.Assign [.Name x pos'] e pos :: rest) G o := run_asg h hN hi hx (Nat.blt_eq.mp hl) hv k hs hf
/-- x = e, e a new list -/
theorem run_asgL {B : Type} {i : Nat} {x : Str} {e : Expr} {pos' : Pos} {v : B} (enc : B → List Dt) (oF : B → Out) (P : B → Prop) (h : EN (one X) K G e (.ol (enc v))) (hp : P v) (hN : X.N.Nodup) (k : ∀ y, P y → Run X K W sv rest (G.set i (some (.ol (enc y)))) (oF y))
    (hi : X.N[i]? = some x := by rfl) (hx : Loc X.env.scope x := by first | exact Or.inl rfl | exact Or.inr rfl) (hl : Nat.blt i G.length = true := by rfl) (hv : memN sv.ks i = false := by rfl)
    (hs : swapsWith e (some (.Name x pos')) pos.line X.env = pure false := by rfl) (hf : X.fn x = true ∨ X.env.scope.names.lookup x = some .local := by first | exact .inl rfl | exact .inr rfl | assumption) (ho : oF v = o := by rfl) :
    Run X K W sv (.Assign [.Name x pos'] e pos :: rest) G o := ho ▸ run_asgN h hN hi hx (Nat.blt_eq.mp hl) hv (k v hp) hs hf
end
end Vs

/-! Typed words: what a printed proof names. -/
namespace Vs
open PySem PySem.Spec L2

/-! ### options -/
def encO {A : Type} (f : A → Dt) : Option A → Dt
  | none => .non
  | some x => f x
def isNo {A : Type} : Option A → Bool
  | none => true
  | some _ => false
section
variable {I : Type} {X : I → Cx} {K : PySem.W.Frag} {G : Env}
theorem encO_non {A : Type} (f : A → Dt) (h : ∀ x, (f x).isNon = false) : ∀ o : Option A, (encO f o).isNon = isNo o
  | none => rfl
  | some x => h x
theorem says_isO {A : Type} (f : A → Dt) (h : ∀ x, (f x).isNon = false) {o : Option A} : Says X K .Is (encO f o) .non (isNo o) := by
  rw [← encO_non f h o]; exact says_isN
theorem says_notO {A : Type} (f : A → Dt) (h : ∀ x, (f x).isNon = false) {o : Option A} : Says X K .IsNot (encO f o) .non (!isNo o) := by
  rw [← encO_non f h o]; exact says_notN
theorem EN.isL {e : Expr} {ds ds' : List Dt} (h : EN X K G e (.ol ds)) (q : ds = ds') : EN X K G e (.ol ds') := q ▸ h
/-! ### lists -/
theorem x_catL {A : Type} {a b : Expr} {pos : Pos} {xs ys : List A} (f : A → Dt) (ha : EX X K G a (.lst (xs.map f))) (hb : EX X K G b (.lst (ys.map f))) (hn : xs.length + ys.length ≤ big) : EN X K G (.BinOp a .Add b pos) (.ol ((xs ++ ys).map f)) :=
  EN.isL (en_catL ha hb (by rw [List.length_map, List.length_map]; exact hn)) (by rw [List.map_append])
theorem x_sliceL {A : Type} {a : Expr} {lo hi : Option Expr} {p2 pos : Pos} {xs : List A} {l h : Option Int} (f : A → Dt) (hK : ∀ j, (X j).K = K) (ha : ES X K G a false (xs.map f)) (hl : EO X K G lo l) (hh : EO X K G hi h) : EN X K G (.Subscript a (.Slice lo hi none p2) pos) (.ol ((cut xs l h).map f)) :=
  EN.isL (en_sliceL hK ha hl hh) (cut_map f xs l h)
theorem x_len {A : Type} {e : Expr} {p pos : Pos} {tu : Bool} {xs : List A} (f : A → Dt) (hK : ∀ j, (X j).K = K) (h : ES X K G e tu (xs.map f)) (hg : ∀ j, Gl (X j) "len") (hm : ∀ j, (X j).mg "len" = none)
    (he : ∀ j, starEach [e] (X j).env = [(false, eval e (X j).env)] := by intro _; rfl) : EX X K G (.Call (.Name "len" p) [e] [] pos) (.int xs.length) :=
  (ex_len hK h hg hm he).is (by rw [List.length_map])
/-! ### in a list -/
theorem repL_str {F : Hp} : ∀ {xs : List Str} {vs : List V}, RepL K F vs (xs.map Dt.str) → vs = xs.map V.str
  | [], _, .nil => rfl
  | _ :: xs, _, .cons h r => by
    cases h
    rw [repL_str r, List.map_cons]
theorem repL_int {F : Hp} : ∀ {xs : List Int} {vs : List V}, RepL K F vs (xs.map Dt.int) → vs = xs.map V.int
  | [], _, .nil => rfl
  | _ :: xs, _, .cons h r => by
    cases h
    rw [repL_int r, List.map_cons]
theorem repL_bl {F : Hp} : ∀ {xs : List Bool} {vs : List V}, RepL K F vs (xs.map Dt.bl) → vs = xs.map V.bl
  | [], _, .nil => rfl
  | _ :: xs, _, .cons h r => by
    cases h
    rw [repL_bl r, List.map_cons]
theorem flat_map {A : Type} (g : A → V) (h : ∀ x, flatV (g x) = true) : ∀ xs : List A, (xs.map g).all flatV = true
  | [] => rfl
  | x :: xs => by rw [List.map_cons, List.all_cons, h x, flat_map g h xs]; rfl
theorem inV_str (x : Str) : ∀ xs : List Str, inV (.str x) (xs.map V.str) = xs.elem x
  | [] => rfl
  | y :: ys => by
    have ih := inV_str x ys
    unfold inV at ih ⊢
    rw [List.map_cons, List.any_cons, ih, List.elem_cons]
    have e : eqV (V.str y) (V.str x) = (x == y) := by
      show (y == x) = (x == y)
      exact BEq.comm
    rw [e]
    cases x == y <;> rfl
/-- membership -/
theorem ex_in {op : CmpOp} {neg : Bool} {e l : Expr} {pos : Pos} {tu : Bool} {ds : List Dt} {d : Dt} {b : Bool} (ho : ∀ j, OpR (X j) (compareOp op) (rIn K neg)) (ha : EX X K G e d) (hb : ES X K G l tu ds) (hm : behindInMarks op l = false)
    (hr : ∀ F v vs, Rep K F v d → RepL K F vs ds → flatV v = true ∧ vs.all flatV = true ∧ inV v vs = b) : EX X K G (.Compare e [op] [l] pos) (.bl (if neg then !b else b)) := fun F H σ fps Q k q =>
  ⟨tOp (rIn K neg) (wpE X e) (wpE X l), fun j => pe_cmpR (ho j) (pe_wp j) (pe_wp j) hm, ha F H σ fps _ k fun F1 H1 v u1 r1 => hb F1 H1 σ fps _ (k.up u1) fun F2 H2 p vs u2 r2 l2 rl => by
    obtain ⟨h1, h2, h3⟩ := hr F2 v vs (r1.mono u2.fr) rl
    refine ⟨p, vs, rfl, ?_, h1, h2, by rw [h3]; exact q F2 H2 _ (u1.trans u2) (.bl _)⟩
    cases tu with
    | true => exact .inr r2
    | false => exact .inl r2⟩
theorem eb_in {op : CmpOp} {neg : Bool} {e l : Expr} {pos : Pos} {tu : Bool} {ds : List Dt} {d : Dt} {b : Bool} (ho : ∀ j, OpR (X j) (compareOp op) (rIn K neg)) (ha : EX X K G e d) (hb : ES X K G l tu ds) (hm : behindInMarks op l = false)
    (hr : ∀ F v vs, Rep K F v d → RepL K F vs ds → flatV v = true ∧ vs.all flatV = true ∧ inV v vs = b) : EB X K G (.Compare e [op] [l] pos) (if neg then !b else b) := fun F H σ fps Q k q =>
  ⟨tTest (tOp (rIn K neg) (wpE X e) (wpE X l)), fun j => pt_cmpR (ho j) (pe_wp j) (pe_wp j) hm, ha F H σ fps _ k fun F1 H1 v u1 r1 => hb F1 H1 σ fps _ (k.up u1) fun F2 H2 p vs u2 r2 l2 rl => by
    obtain ⟨h1, h2, h3⟩ := hr F2 v vs (r1.mono u2.fr) rl
    refine ⟨p, vs, rfl, ?_, h1, h2, by rw [h3]; exact ⟨_, rfl, q F2 H2 (u1.trans u2)⟩⟩
    cases tu with
    | true => exact .inr r2
    | false => exact .inl r2⟩
theorem inStr {x : Str} {xs : List Str} (F : Hp) (v : V) (vs : List V) (r : Rep K F v (.str x)) (rl : RepL K F vs (xs.map Dt.str)) : flatV v = true ∧ vs.all flatV = true ∧ inV v vs = xs.elem x := by
  cases r
  rw [repL_str rl]
  exact ⟨rfl, flat_map V.str (fun _ => rfl) xs, inV_str x xs⟩
theorem xx_inS {e l : Expr} {pos : Pos} {tu : Bool} {x : Str} {xs : List Str} (hK : ∀ j, (X j).K = K) (ha : EX X K G e (.str x)) (hb : ES X K G l tu (xs.map Dt.str)) (hm : behindInMarks .In l = false := by rfl) : EX X K G (.Compare e [.In] [l] pos) (.bl (xs.elem x)) :=
  ex_in (neg := false) (fun j => hK j ▸ op_in_seq) ha hb hm (fun F v vs r rl => inStr F v vs r rl)
theorem xx_niS {e l : Expr} {pos : Pos} {tu : Bool} {x : Str} {xs : List Str} (hK : ∀ j, (X j).K = K) (ha : EX X K G e (.str x)) (hb : ES X K G l tu (xs.map Dt.str)) (hm : behindInMarks .NotIn l = false := by rfl) : EX X K G (.Compare e [.NotIn] [l] pos) (.bl (!xs.elem x)) :=
  ex_in (neg := true) (fun j => hK j ▸ op_notIn_seq) ha hb hm (fun F v vs r rl => inStr F v vs r rl)
theorem xb_inS {e l : Expr} {pos : Pos} {tu : Bool} {x : Str} {xs : List Str} (hK : ∀ j, (X j).K = K) (ha : EX X K G e (.str x)) (hb : ES X K G l tu (xs.map Dt.str)) (hm : behindInMarks .In l = false := by rfl) : EB X K G (.Compare e [.In] [l] pos) (xs.elem x) :=
  eb_in (neg := false) (fun j => hK j ▸ op_in_seq) ha hb hm (fun F v vs r rl => inStr F v vs r rl)
theorem xb_niS {e l : Expr} {pos : Pos} {tu : Bool} {x : Str} {xs : List Str} (hK : ∀ j, (X j).K = K) (ha : EX X K G e (.str x)) (hb : ES X K G l tu (xs.map Dt.str)) (hm : behindInMarks .NotIn l = false := by rfl) : EB X K G (.Compare e [.NotIn] [l] pos) (!xs.elem x) :=
  eb_in (neg := true) (fun j => hK j ▸ op_notIn_seq) ha hb hm (fun F v vs r rl => inStr F v vs r rl)

/-! ### methods of texts -/
theorem x_startswith {o e : Expr} {apos pos : Pos} {s t : Str} (ho : EX X K G o (.str s)) (he : EX X K G e (.str t)) (hs : ∀ j, starEach [e] (X j).env = [(false, eval e (X j).env)] := by intro _; rfl) (hbase : ∀ j, attributeBase o "startswith" (X j).env (eval o (X j).env) = eval o (X j).env := by intro _; rfl) (hline : (apos.endLine == pos.line) = true := by rfl) :
    EX X K G (.Call (.Attribute o "startswith" apos) [e] [] pos) (.bl (Txt.startswith s t)) := ex_m1 PySem.F.slot_str_startswith PySem.F.type_str_startswith (fun _ => mt_startswith) ho he (fun F H w Q u r g q => by
  cases r
  exact ⟨s, t, rfl, rfl, q F H _ (Up.refl u) (.bl _)⟩) fun j => pe_m1 PySem.F.slot_str_startswith PySem.F.type_str_startswith mt_startswith (pe_wp j) (pe_wp j) (hs j) (hbase j) hline
theorem x_endswith {o e : Expr} {apos pos : Pos} {s t : Str} (ho : EX X K G o (.str s)) (he : EX X K G e (.str t)) (hs : ∀ j, starEach [e] (X j).env = [(false, eval e (X j).env)] := by intro _; rfl) (hbase : ∀ j, attributeBase o "endswith" (X j).env (eval o (X j).env) = eval o (X j).env := by intro _; rfl) (hline : (apos.endLine == pos.line) = true := by rfl) :
    EX X K G (.Call (.Attribute o "endswith" apos) [e] [] pos) (.bl (Txt.endswith s t)) := ex_m1 PySem.F.slot_str_endswith PySem.F.type_str_endswith (fun _ => mt_endswith) ho he (fun F H w Q u r g q => by
  cases r
  exact ⟨s, t, rfl, rfl, q F H _ (Up.refl u) (.bl _)⟩) fun j => pe_m1 PySem.F.slot_str_endswith PySem.F.type_str_endswith mt_endswith (pe_wp j) (pe_wp j) (hs j) (hbase j) hline
theorem x_find {o e : Expr} {apos pos : Pos} {s t : Str} (ho : EX X K G o (.str s)) (he : EX X K G e (.str t)) (hs : ∀ j, starEach [e] (X j).env = [(false, eval e (X j).env)] := by intro _; rfl) (hbase : ∀ j, attributeBase o "find" (X j).env (eval o (X j).env) = eval o (X j).env := by intro _; rfl) (hline : (apos.endLine == pos.line) = true := by rfl) :
    EX X K G (.Call (.Attribute o "find" apos) [e] [] pos) (.int (Txt.find s t)) := ex_m1 PySem.F.slot_str_find PySem.F.type_str_find (fun _ => mt_find) ho he (fun F H w Q u r g q => by
  cases r
  exact ⟨s, t, rfl, rfl, q F H _ (Up.refl u) (.int _)⟩) fun j => pe_m1 PySem.F.slot_str_find PySem.F.type_str_find mt_find (pe_wp j) (pe_wp j) (hs j) (hbase j) hline
end
theorem spl_parts (S : List Nat) : ∀ (l : List Nat) (k : Nat) (acc : List Nat), (TL.spl S k acc l).length ≤ l.length + 1 ∧ ∀ p ∈ TL.spl S k acc l, p.length ≤ acc.length + l.length ∧ ∀ c ∈ p, c ∈ acc ∨ c ∈ l
  | [], k, acc => by
    rw [TL.spl_nil]
    refine ⟨Nat.le_refl _, fun p hp => ?_⟩
    obtain rfl : p = acc := by simpa using hp
    exact ⟨by simp, fun c hc => .inl hc⟩
  | c :: r, 0, acc => by
    cases h : TL.pre S (c :: r) with
    | true =>
      rw [TL.spl_hit h]
      obtain ⟨h1, h2⟩ := spl_parts S r (S.length - 1) []
      refine ⟨by simp only [List.length_cons]; omega, fun p hp => ?_⟩
      rcases List.mem_cons.mp hp with rfl | hp
      · exact ⟨by omega, fun c hc => .inl hc⟩
      · obtain ⟨h3, h4⟩ := h2 p hp
        simp only [List.length_nil, List.length_cons] at h3 ⊢
        exact ⟨by omega, fun d hd => .inr (List.mem_cons_of_mem _ ((h4 d hd).elim (fun z => by simp at z) id))⟩
    | false =>
      rw [TL.spl_miss h]
      obtain ⟨h1, h2⟩ := spl_parts S r 0 (acc ++ [c])
      refine ⟨by simp only [List.length_cons]; omega, fun p hp => ?_⟩
      obtain ⟨h3, h4⟩ := h2 p hp
      simp only [List.length_append, List.length_cons, List.length_nil] at h3 ⊢
      refine ⟨by omega, fun d hd => ?_⟩
      rcases h4 d hd with z | z
      · rcases List.mem_append.mp z with z | z
        · exact .inl z
        · exact .inr (by simp at z; simp [z])
      · exact .inr (List.mem_cons_of_mem _ z)
  | c :: r, k + 1, acc => by
    obtain ⟨h1, h2⟩ := spl_parts S r k acc
    have e : TL.spl S (k + 1) acc (c :: r) = TL.spl S k acc r := rfl
    rw [e]
    refine ⟨by simp only [List.length_cons]; omega, fun p hp => ?_⟩
    obtain ⟨h3, h4⟩ := h2 p hp
    simp only [List.length_cons]
    exact ⟨by omega, fun d hd => (h4 d hd).elim .inl fun z => .inr (List.mem_cons_of_mem _ z)⟩
def sepOk (y : Str) : Bool := !(y.length == 0) && y.cps.all (· < 256)
theorem sep_ne {y : Str} (h : sepOk y = true) : (y.length == 0) = false ∧ TL.tl y ≠ [] := by
  have h1 := (Bool.and_eq_true_iff.mp h).1
  have h2 : (y.length == 0) = false := by simpa using h1
  refine ⟨h2, fun e => ?_⟩
  have : y.length = 0 := by rw [TL.len_tl, e]; rfl
  rw [this] at h2; cases h2
theorem split_good {x y : Str} (hx : goodB x = true) (hy : sepOk y = true) : (Txt.split x y).length ≤ big ∧ ∀ p ∈ Txt.split x y, goodB p = true := by
  have e := TL.split_spl x y (sep_ne hy).2 (TL.kind_ok (Bool.and_eq_true_iff.mp hy).2)
  obtain ⟨h1, h2⟩ := spl_parts (TL.tl y) (TL.tl x) 0 []
  rw [← e] at h1 h2
  have hl := good_len hx
  rw [TL.len_tl] at hl
  refine ⟨?_, fun p hp => ?_⟩
  · rw [List.length_map] at h1
    have : bigS + 1 ≤ big := by decide
    omega
  · obtain ⟨h3, h4⟩ := h2 (TL.tl p) (List.mem_map.mpr ⟨p, hp, rfl⟩)
    refine good_sub hx ?_ fun c hc => (h4 c hc).elim (fun z => by simp at z) id
    rw [TL.len_tl, TL.len_tl x]
    simpa using h3
theorem par_parts (S : List Nat) : ∀ (l acc a b : List Nat), TL.par S acc l = some (a, b) → (a.length ≤ acc.length + l.length ∧ ∀ c ∈ a, c ∈ acc ∨ c ∈ l) ∧ (b.length ≤ l.length ∧ ∀ c ∈ b, c ∈ l)
  | [], acc, a, b, h => by cases h
  | c :: r, acc, a, b, h => by
    unfold TL.par at h
    split at h
    · cases h
      exact ⟨⟨by omega, fun c hc => .inl hc⟩, by rw [List.length_drop]; omega, fun d hd => List.mem_of_mem_drop hd⟩
    · obtain ⟨⟨h1, h2⟩, h3, h4⟩ := par_parts S r (acc ++ [c]) a b h
      simp only [List.length_append, List.length_cons, List.length_nil] at h1 h3 ⊢
      refine ⟨⟨by omega, fun d hd => ?_⟩, by omega, fun d hd => List.mem_cons_of_mem _ (h4 d hd)⟩
      rcases h2 d hd with z | z
      · rcases List.mem_append.mp z with z | z
        · exact .inl z
        · exact .inr (by simp at z; simp [z])
      · exact .inr (List.mem_cons_of_mem _ z)
theorem partition_good {x y : Str} (hx : goodB x = true) (hy : goodB y = true) (hs : sepOk y = true) : goodB (Txt.partition x y).1 = true ∧ goodB (Txt.partition x y).2.1 = true ∧ goodB (Txt.partition x y).2.2 = true := by
  rw [TL.partition_par x y (sep_ne hs).2]
  cases h : TL.par (TL.tl y) [] (TL.tl x) with
  | none =>
    have e0 : goodB Str.empty = true := by decide +kernel
    exact ⟨hx, e0, e0⟩
  | some ab =>
    obtain ⟨a, b⟩ := ab
    obtain ⟨⟨h1, h2⟩, h3, h4⟩ := par_parts _ _ _ _ _ h
    refine ⟨good_sub hx ?_ fun c hc => (h2 c hc).elim (fun z => by simp at z) id, hy, good_sub hx ?_ fun c hc => h4 c hc⟩
    · rw [TL.len_tl, TL.len_tl x]; simpa using h1
    · rw [TL.len_tl, TL.len_tl x]; exact h3
theorem joinL_parts (S : List Nat) : ∀ ps : List (List Nat), (TL.joinL S ps).length ≤ (ps.map List.length).sum + ps.length * S.length ∧ ∀ c ∈ TL.joinL S ps, c ∈ S ∨ ∃ p ∈ ps, c ∈ p
  | [] => ⟨by simp [TL.joinL], fun c hc => by simp [TL.joinL] at hc⟩
  | [p] => ⟨by simp [TL.joinL], fun c hc => .inr ⟨p, by simp, hc⟩⟩
  | p :: q :: r => by
    obtain ⟨h1, h2⟩ := joinL_parts S (q :: r)
    have e : TL.joinL S (p :: q :: r) = p ++ (S ++ TL.joinL S (q :: r)) := rfl
    rw [e]
    refine ⟨?_, fun c hc => ?_⟩
    · simp only [List.length_append, List.map_cons, List.sum_cons, List.length_cons, Nat.add_mul] at h1 ⊢
      omega
    · rcases List.mem_append.mp hc with z | z
      · exact .inr ⟨p, by simp, z⟩
      · rcases List.mem_append.mp z with z | z
        · exact .inl z
        · rcases h2 c z with z | ⟨p', h3, h4⟩
          · exact .inl z
          · exact .inr ⟨p', List.mem_cons_of_mem _ h3, h4⟩
def joinOk (a : Str) (ys : List Str) : Prop := (ys.map (·.length)).sum + ys.length * a.length ≤ bigS
theorem sum_tl : ∀ ys : List Str, ((ys.map TL.tl).map List.length).sum = (ys.map (·.length)).sum
  | [] => rfl
  | y :: ys => by
    simp only [List.map_cons, List.sum_cons, sum_tl ys]
    rw [TL.len_tl y]
theorem join_good {a : Str} {ys : List Str} (ha : goodB a = true) (hy : ∀ y ∈ ys, goodB y = true) (h : joinOk a ys) : goodB (Txt.join a ys) = true := by
  rw [TL.join_eq]
  obtain ⟨h1, h2⟩ := joinL_parts (TL.tl a) (ys.map TL.tl)
  rw [← TL.tl_join, List.length_map, sum_tl] at h1
  rw [← TL.tl_join] at h2
  refine good_iff.mpr ⟨?_, fun c hc => ?_⟩
  · rw [TL.len_tl]
    unfold joinOk at h
    rw [TL.len_tl a] at h
    omega
  · rcases h2 c hc with z | ⟨p, hp, z⟩
    · exact (good_iff.mp ha).2 c z
    · obtain ⟨y, hy1, rfl⟩ := List.mem_map.mp hp
      exact (good_iff.mp (hy y hy1)).2 c z
section
variable {I : Type} {X : I → Cx} {K : PySem.W.Frag} {G : Env}
theorem repStrs {F : Hp} : ∀ {xs : List Str}, (∀ x ∈ xs, goodB x = true) → RepL K F (xs.map V.str) (xs.map Dt.str)
  | [], _ => .nil
  | x :: xs, h => .cons (.str x (h x (by simp))) (repStrs fun y hy => h y (List.mem_cons_of_mem _ hy))
theorem repStrs_good {F : Hp} : ∀ {xs : List Str} {vs : List V}, RepL K F vs (xs.map Dt.str) → ∀ x ∈ xs, goodB x = true
  | [], _, .nil, x, h => by simp at h
  | y :: xs, _, .cons h r, x, hx => by
    rcases List.mem_cons.mp hx with rfl | hx
    · cases h with
      | str _ g => exact g
    · exact repStrs_good r x hx
theorem x_split {o e : Expr} {apos pos : Pos} {s t : Str} (ho : EX X K G o (.str s)) (he : EX X K G e (.str t)) (hy : sepOk t = true) (hs : ∀ j, starEach [e] (X j).env = [(false, eval e (X j).env)] := by intro _; rfl) (hbase : ∀ j, attributeBase o "split" (X j).env (eval o (X j).env) = eval o (X j).env := by intro _; rfl) (hline : (apos.endLine == pos.line) = true := by rfl) :
    EN X K G (.Call (.Attribute o "split" apos) [e] [] pos) (.ol ((Txt.split s t).map Dt.str)) := fun F H σ fps Q k q =>
  ⟨tM1 (fun x xs H Q => ∃ a b, x = .str a ∧ xs = [.str b] ∧ (b.length == 0) = false ∧ a.length + 2 ≤ sizeLine ∧ rNewStrs (Txt.split a b) H Q) (wpE X o) (wpE X e), fun j => pe_split (pe_wp j) (pe_wp j) (hs j) (hbase j) hline, ho F H σ fps _ k fun F1 H1 v u r => by
    cases r with
    | str _ g =>
      refine ⟨⟨s, rfl⟩, he F1 H1 σ fps _ (k.up u) fun F2 H2 w u2 r2 => ?_⟩
      cases r2
      obtain ⟨g1, g2⟩ := split_good g hy
      refine ⟨s, t, rfl, rfl, (sep_ne hy).1, ?_, fun p hp => ?_⟩
      · have := good_len g
        have : bigS + 2 ≤ sizeLine := by rw [sizeLine_eq]; decide
        omega
      · have n0 : H p = none := (u.trans u2).hp.free hp
        refine q F2 (upd H2 p (.lst ((Txt.split s t).map V.str))) (.ref p) [p] ((u.trans u2).trans (Up.layH u2.sb hp)) (.ol upd_same (by rw [List.length_map]; exact g1) (repStrs g2)) fun a ha => ?_
        obtain rfl : a = p := by simpa using ha
        exact ⟨n0, u2.sb.none hp, by rw [upd_same]; simp⟩⟩
theorem x_partition {o e : Expr} {apos pos : Pos} {s t : Str} (ho : EX X K G o (.str s)) (he : EX X K G e (.str t)) (hy : sepOk t = true) (hs : ∀ j, starEach [e] (X j).env = [(false, eval e (X j).env)] := by intro _; rfl) (hbase : ∀ j, attributeBase o "partition" (X j).env (eval o (X j).env) = eval o (X j).env := by intro _; rfl) (hline : (apos.endLine == pos.line) = true := by rfl) :
    EX X K G (.Call (.Attribute o "partition" apos) [e] [] pos) (.tup [.str (Txt.partition s t).1, .str (Txt.partition s t).2.1, .str (Txt.partition s t).2.2]) := fun F H σ fps Q k q =>
  ⟨tM1 _ (wpE X o) (wpE X e), fun j => pe_partition (pe_wp j) (pe_wp j) (hs j) (hbase j) hline, ho F H σ fps _ k fun F1 H1 v u r => by
    cases r with
    | str _ g =>
      refine ⟨⟨s, rfl⟩, he F1 H1 σ fps _ (k.up u) fun F2 H2 w u2 r2 => ?_⟩
      cases r2 with
      | str _ g' =>
        obtain ⟨g1, g2, g3⟩ := partition_good g g' hy
        refine ⟨s, t, rfl, rfl, (sep_ne hy).1, good_line g, fun p hp => ?_⟩
        exact q _ _ _ ((u.trans u2).trans (Up.lay u2.sb hp)) (.tup upd_same (by show 3 ≤ big; decide) (.cons (.str _ g1) (.cons (.str _ g2) (.cons (.str _ g3) .nil))))⟩
theorem x_join {o e : Expr} {apos pos : Pos} {s : Str} {tu : Bool} {ys : List Str} (hK : ∀ j, (X j).K = K) (ho : EX X K G o (.str s)) (he : ES X K G e tu (ys.map Dt.str)) (hj : joinOk s ys) (hs : ∀ j, starEach [e] (X j).env = [(false, eval e (X j).env)] := by intro _; rfl) (hbase : ∀ j, attributeBase o "join" (X j).env (eval o (X j).env) = eval o (X j).env := by intro _; rfl) (hline : (apos.endLine == pos.line) = true := by rfl) :
    EX X K G (.Call (.Attribute o "join" apos) [e] [] pos) (.str (Txt.join s ys)) := fun F H σ fps Q k q =>
  ⟨tM1 (fun x xs H Q => ∃ a p, ∃ ys : List Str, x = .str a ∧ xs = [.ref p] ∧ (SqL K H p (ys.map V.str) ∨ SqT K H p (ys.map V.str)) ∧ (ys.map (·.length)).sum + ys.length * a.length ≤ 16777216 ∧ Q (.str (Txt.join a ys)) H) (wpE X o) (wpE X e), fun j => hK j ▸ pe_join (pe_wp j) (pe_wp j) (hs j) (hbase j) hline, ho F H σ fps _ k fun F1 H1 v u r => by
    cases r with
    | str _ g =>
      refine ⟨⟨s, rfl⟩, he F1 H1 σ fps _ (k.up u) fun F2 H2 p vs u2 r2 l2 rl => ?_⟩
      have ev := repL_str rl
      subst ev
      refine ⟨s, p, ys, rfl, rfl, ?_, ?_, q F2 H2 _ (u.trans u2) (.str _ (join_good g (repStrs_good rl) hj))⟩
      · cases tu with
        | true => exact .inr r2
        | false => exact .inl r2
      · unfold joinOk at hj
        have : bigS ≤ 16777216 := by decide
        omega⟩
/-- int(truth) -/
theorem ex_intB {e : Expr} {p pos : Pos} {b : Bool} (h : EX X K G e (.bl b)) (hg : ∀ j, Gl (X j) "int") (hm : ∀ j, (X j).mg "int" = none)
    (he : ∀ j, starEach [e] (X j).env = [(false, eval e (X j).env)] := by intro _; rfl) : EX X K G (.Call (.Name "int" p) [e] [] pos) (.int (if b then 1 else 0)) := fun F H σ fps Q k q =>
  ⟨tCB _ (tCons (wpE X e) tNil), fun j => pe_callTy call_int1 (hg j) (hm j) (by decide +kernel) (pa_cons (pe_wp j) pa_nil (he j)) (by decide) (by decide) (he j) rfl, h F H σ fps _ k fun F1 H1 v u r => by
    cases r
    exact .inr ⟨b, rfl, q F1 H1 _ u (.int _)⟩⟩
end
def mulOk (i j : Int) : Prop := (-(2 ^ 64) < i ∧ i < 2 ^ 64) ∨ (-(2 ^ 64) < j ∧ j < 2 ^ 64)
def rngOk (n : Int) : Prop := -(2 ^ 62) ≤ n ∧ n < 2 ^ 62
def rng2Ok (lo n : Int) : Prop := -(2 ^ 62) ≤ lo ∧ lo < 2 ^ 62 ∧ -(2 ^ 62) ≤ n ∧ n < 2 ^ 62
end Vs

/-! Typed words for statements, comprehensions, equality. -/
namespace Vs
open PySem PySem.Spec L2

/-! ### comprehensions -/
def lcF {A B : Type} (p : A → Bool) (f : A → B) (xs : List A) : List B := xs.filterMap fun x => if p x then some (f x) else none
theorem lcF_enc {A B : Type} (enc : B → Dt) (p : A → Bool) (f : A → B) (xs : List A) : (xs.filterMap fun x => if p x then some (enc (f x)) else none) = (lcF p f xs).map enc := by
  unfold lcF
  rw [List.map_filterMap]
  congr 1
  funext x
  cases p x <;> rfl
theorem lcM_enc {A B : Type} (enc : B → Dt) (f : A → B) (xs : List A) : (xs.filterMap fun x => if (fun _ : A => true) x then some (enc (f x)) else none) = (List.map f xs).map enc := by
  rw [List.map_map]
  show (xs.filterMap fun x => some (enc (f x))) = _
  rw [List.filterMap_eq_map']
  rfl
theorem lcF_eq {A B : Type} (p : A → Bool) (f : A → B) (xs : List A) : lcF p f xs = (xs.filter p).map f := by
  unfold lcF
  induction xs with
  | nil => rfl
  | cons x xs ih =>
    rw [List.filterMap_cons, List.filter_cons]
    cases h : p x
    · simp only [Bool.false_eq_true, if_false]; exact ih
    · simp only [if_true, List.map_cons]; rw [ih]
section
variable {X : Cx} {K : PySem.W.Frag} {G : Env} {W : WX} {sv : Sv} {rest : List Stmt} {o : Out}
/-- en_lc with the order of printed proofs -/
theorem x_lc {I : Type} {X : I → Cx} {A : Type} {elt tg iter : Expr} {ifs : List Expr} {scope : Scope} {own : List (Str × Nat)} {pos : Pos} {g : TG} {js : List Nat} {xs : List A} (enc : A → Dt) (Gb : A → Env) (p : A → Bool) (f : A → Dt)
    (hc : ∀ i, (X i).calm = true) (hN : ∀ i, (X i).N.Nodup) (hi : ISrc X K G tg iter (xs.map enc)) (hn : xs.length ≤ big) (ok : ∀ i, BlkOk (X i).N (X i).env.scope scope own) (hjs : ∀ j ∈ js, j ∈ own.map (·.2))
    (hg : ∀ b, PG (blkX X scope b) tg g) (hB : ∀ x, Bd K g js (enc x) (wipeG G (own.map (·.2))) (Gb x))
    (ht : ∃ t : TT, (∀ i, PTs (blkX X scope i) ifs t) ∧ ∀ x, x ∈ xs → ∀ F H σ fps (Q : Bool → Hp → Prop), EnvOk K F H σ (Gb x) fps → (∀ F' H', Up F H F' H' → Q (p x) H') → t σ H Q)
    (he : ∀ x, x ∈ xs → p x = true → EX (blkX X scope) K (Gb x) elt (f x)) :
    EN X K G (.ListComp elt [⟨tg, iter, ifs, 0⟩] scope pos) (.ol (xs.filterMap fun x => if p x then some (f x) else none)) := en_lc enc Gb p f hc hN hi hn ok hjs hg hB ht he

/-- a block within a block -/
theorem relk_fc (c : Str × NameKind → Bool) {x : Str} : ∀ {names : List (Str × NameKind)}, (names.lookup x = some .cell ∨ names.lookup x = some .free) →
    ((names.map fun p => if c p then (p.1, NameKind.cell) else p).lookup x = some .cell ∨ (names.map fun p => if c p then (p.1, NameKind.cell) else p).lookup x = some .free)
  | [], h => by rcases h with h | h <;> simp at h
  | (n, k) :: r, h => by
    have ih := @relk_fc c x r
    rw [List.map_cons]
    have key : ∀ k', (k' = k ∨ k' = NameKind.cell) → (List.lookup x ((n, k') :: r.map fun p => if c p then (p.1, NameKind.cell) else p) = some NameKind.cell ∨ List.lookup x ((n, k') :: r.map fun p => if c p then (p.1, NameKind.cell) else p) = some NameKind.free) := fun k' hk => by
      rw [List.lookup_cons] at h ⊢
      cases hx : x == n
      · rw [hx] at h; exact ih h
      · rw [hx] at h
        rcases hk with rfl | rfl
        · exact h
        · exact .inl rfl
    split
    · exact key _ (.inr rfl)
    · exact key _ (.inl rfl)
theorem relabel_fc {env : PySem.Env} {x : Str} {sc : Scope} (h : sc.names.lookup x = some .cell ∨ sc.names.lookup x = some .free) : (relabel sc env).names.lookup x = some .cell ∨ (relabel sc env).names.lookup x = some .free := by
  have e : (relabel sc env).names = sc.names.map fun p => if (fun p : Str × NameKind => p.2 == NameKind.free && env.scope.kind == .function && env.kindOf p.1 == some NameKind.cell) p then (p.1, NameKind.cell) else p := List.map_congr_left fun p _ => by obtain ⟨n, k⟩ := p; rfl
  rw [e]
  exact relk_fc _ h
theorem blkOk_nest {I : Type} {X : I → Cx} {b : BlkI I} {N : List Str} {sc scope : Scope} {own : List (Str × Nat)} (h : blkC N sc scope own = true) (hN : (X b.i).N = N := by rfl) : BlkOk (blkX X sc b).N (blkX X sc b).env.scope scope own := by
  have e1 : (blkX X sc b).N = N := hN
  rw [e1]
  have q := blkOk_by h
  exact ⟨q.kind, q.uniq, q.ix, fun y hy e => relabel_fc (q.free y hy e), q.own⟩

/-! ### statements -/
theorem run_asgTP {B : Type} {tg e : Expr} {g : TG} {js : List Nat} {v : B} {pos : Pos} (enc : B → Dt) (oF : B → Out) (P : B → Prop) (G' : B → Env) (h : EX (one X) K G e (enc v)) (hp : P v) (hg : PG X tg g) (hB : ∀ y, Bd K g js (enc y) G (G' y)) (hv : noneIn sv.ks js = true) (k : ∀ y, P y → Run X K W sv rest (G' y) (oF y))
    (hs : swapsWithSole [tg] e pos.line X.env = pure false := by rfl) (hw : swappedStores [tg] e X.env = pure none := by rfl) (hx : (assignEach [tg] X.env).map (·.2) = [assign tg X.env] := by rfl) (ho : oF v = o := by rfl) : Run X K W sv (.Assign [tg] e pos :: rest) G o := ho ▸
  run_asgT h hg (hB v) hv (k v hp) hs hw hx
theorem run_gd {T : Type} {c : Expr} {b : Bool} {thn : List Stmt} {pos : Pos} (E : T → Out) (x y : T) (hE : NoNx (E x)) (hc : EB (one X) K G c b) (h1 : b = true → Run X K W sv thn G (E x)) (h2 : b = false → Run X K W sv rest G (E y)) (ho : E (cond b x y) = o := by rfl) :
    Run X K W sv (.If c thn [] pos :: rest) G o := ho ▸ run_guard E hE hc h1 h2
theorem run_iE {T : Type} {c : Expr} {b : Bool} {thn els : List Stmt} {pos : Pos} (E : T → Out) (x y : T) (hx : NoNx (E x)) (hy : NoNx (E y)) (hc : EB (one X) K G c b) (h1 : b = true → Run X K W sv thn G (E x)) (h2 : b = false → Run X K W sv els G (E y)) (ho : E (cond b x y) = o := by rfl) :
    Run X K W sv (.If c thn els pos :: rest) G o := ho ▸ run_ifE E hx hy hc h1 h2
theorem run_ifP {S : Type} {c : Expr} {b : Bool} {thn els : List Stmt} {pos : Pos} {s1 s2 : S} (Gj : S → Env) (oF : S → Out) (P : S → Prop) (hc : EB (one X) K G c b) (hp : P (cond b s1 s2)) (h1 : b = true → Run X K W sv thn G (.nx (Gj s1))) (h2 : b = false → Run X K W sv els G (.nx (Gj s2)))
    (hk : ∀ s, P s → Run X K W sv rest (Gj s) (oF s)) (ho : oF (cond b s1 s2) = o := by rfl) : Run X K W sv (.If c thn els pos :: rest) G o := ho ▸ run_ifJ Gj hc h1 h2 (hk _ hp)
theorem run_forQ {A S T R : Type} {tg iter : Expr} {g : TG} {js : List Nat} {body : List Stmt} {pos : Pos} {P : S → A → Prop} {Q : S → Prop} {s0 : S} {xs : List A} (enc : A → Dt) (Gs : S → Env) (Gb : S → A → Env) (E : T → Out) (step : S → A → Step S R) (io : R → T) (k : S → T)
    (hp : PassesOwn (model X.prog X.w) X.A X.env X.xe) (hc : X.calm = true) (hg : PG X tg g) (hv : noneIn sv.ks js = true) (hE : ∀ y, Term (E (io y)))
    (hi : ISrc (one X) K G tg iter (xs.map enc)) (h0 : Weak G (Gs s0)) (hB : ∀ s x, Bd K g js (enc x) (Gs s) (Gb s x)) (hP : LoopAll P Q step xs s0)
    (hb : ∀ s x, x ∈ xs → P s x → Run X K W sv body (Gb s x) ((step s x).out Gs fun y => E (io y)))
    (hk : ∀ s, Q s → Run X K W sv rest (Gs s) (E (k s))) (ho : E (loop step io k xs s0) = o := by rfl) : Run X K W sv (.For tg iter body [] pos :: rest) G o := ho ▸ run_for enc Gs Gb E step io k hp hc hg hv hE hi h0 hB hP hb hk
end

/-! ### a loop within a loop: what the inner one leaves is what the outer one's turn gives -/
/-! ### equality, typed -/
structure EqT {A : Type} [BEq A] (f : A → Dt) (n : Nat) : Prop where
  fl : ∀ x, (f x).flat = true
  dp : ∀ x, (f x).py.depth ≤ n
  eq : ∀ x y, PyData.eqv (f x).py (f y).py = (x == y)
theorem EqT.d {A : Type} [BEq A] {f : A → Dt} {n : Nat} (h : EqT f n) (hn : n ≤ 64) (x y : A) : EqD (f x) (f y) (x == y) := ⟨h.fl x, h.fl y, Nat.le_trans (h.dp x) hn, Nat.le_trans (h.dp y) hn, h.eq x y⟩
theorem eqt_int : EqT Dt.int 0 := ⟨fun _ => rfl, fun x => by simp [Dt.py, PyData.depth], fun x y => by simp [Dt.py, PyData.eqv]⟩
theorem eqt_str : EqT Dt.str 0 := ⟨fun _ => rfl, fun x => by simp [Dt.py, PyData.depth], fun x y => by simp [Dt.py, PyData.eqv]⟩
theorem eqt_bl : EqT Dt.bl 0 := ⟨fun _ => rfl, fun x => by simp [Dt.py, PyData.depth], fun x y => by simp [Dt.py, PyData.eqv]⟩
section
variable {A : Type} [BEq A] {f : A → Dt} {n : Nat}
theorem eqt_flatL (h : EqT f n) : ∀ xs : List A, Dt.flatL (xs.map f) = true
  | [] => rfl
  | x :: xs => by
    show ((f x).flat && Dt.flatL (xs.map f)) = true
    rw [h.fl x, eqt_flatL h xs]; rfl
theorem eqt_depL (h : EqT f n) : ∀ xs : List A, PyData.depthAll (Dt.pyL (xs.map f)) ≤ n
  | [] => by simp [Dt.pyL, PyData.depthAll]
  | x :: xs => by
    show PyData.depthAll ((f x).py :: Dt.pyL (xs.map f)) ≤ n
    unfold PyData.depthAll
    exact Nat.max_le.mpr ⟨h.dp x, eqt_depL h xs⟩
theorem eqt_eqL (h : EqT f n) : ∀ xs ys : List A, PyData.eqvAll (Dt.pyL (xs.map f)) (Dt.pyL (ys.map f)) = (xs == ys)
  | [], [] => by simp [Dt.pyL, PyData.eqvAll]
  | [], _ :: _ => by simp [Dt.pyL, PyData.eqvAll]
  | _ :: _, [] => by simp [Dt.pyL, PyData.eqvAll]
  | x :: xs, y :: ys => by
    show PyData.eqvAll ((f x).py :: Dt.pyL (xs.map f)) ((f y).py :: Dt.pyL (ys.map f)) = _
    unfold PyData.eqvAll
    rw [h.eq x y, eqt_eqL h xs ys]
    rfl
theorem eqt_lst (h : EqT f n) : EqT (fun xs : List A => Dt.lst (xs.map f)) (n + 1) := ⟨fun xs => eqt_flatL h xs, fun xs => by
  simp only [Dt.py]; unfold PyData.depth; exact Nat.succ_le_succ (eqt_depL h xs), fun xs ys => by
  simp only [Dt.py]; unfold PyData.eqv; exact eqt_eqL h xs ys⟩
theorem eqt_vtup (h : EqT f n) : EqT (fun xs : List A => Dt.tup (xs.map f)) (n + 1) := ⟨fun xs => eqt_flatL h xs, fun xs => by
  simp only [Dt.py]; unfold PyData.depth; exact Nat.succ_le_succ (eqt_depL h xs), fun xs ys => by
  simp only [Dt.py]; unfold PyData.eqv; exact eqt_eqL h xs ys⟩
theorem eqt_opt (h : EqT f n) (h1 : ∀ x, PyData.eqv .none (f x).py = false) (h2 : ∀ x, PyData.eqv (f x).py .none = false) : EqT (encO f) n := ⟨fun x => by cases x with | none => rfl | some y => exact h.fl y, fun x => by
  cases x with
  | none => simp [encO, Dt.py, PyData.depth]
  | some y => exact h.dp y, fun x y => by
  cases x with
  | none => cases y with
    | none => simp [encO, Dt.py, PyData.eqv]
    | some z => exact h1 z
  | some x => cases y with
    | none => exact h2 x
    | some z => exact h.eq x z⟩
end
theorem eqt_tup2 {A B : Type} [BEq A] [BEq B] {f : A → Dt} {g : B → Dt} {n m : Nat} (h : EqT f n) (h2 : EqT g m) : EqT (fun z : A × B => Dt.tup [f z.1, g z.2]) (max n m + 1) := ⟨fun z => by
  show ((f z.1).flat && ((g z.2).flat && true)) = true
  rw [h.fl, h2.fl]; rfl, fun z => by
  simp only [Dt.py, Dt.pyL]
  unfold PyData.depth PyData.depthAll PyData.depthAll PyData.depthAll
  have := h.dp z.1
  have := h2.dp z.2
  omega, fun z y => by
  simp only [Dt.py, Dt.pyL]
  unfold PyData.eqv PyData.eqvAll PyData.eqvAll PyData.eqvAll
  rw [h.eq, h2.eq, Bool.and_true]
  rfl⟩
theorem eqt_tup3 {A B C : Type} [BEq A] [BEq B] [BEq C] {f : A → Dt} {g : B → Dt} {k : C → Dt} {n m l : Nat} (h : EqT f n) (h2 : EqT g m) (h3 : EqT k l) : EqT (fun z : A × B × C => Dt.tup [f z.1, g z.2.1, k z.2.2]) (max n (max m l) + 1) := ⟨fun z => by
  show ((f z.1).flat && ((g z.2.1).flat && ((k z.2.2).flat && true))) = true
  rw [h.fl, h2.fl, h3.fl]; rfl, fun z => by
  simp only [Dt.py, Dt.pyL]
  unfold PyData.depth PyData.depthAll PyData.depthAll PyData.depthAll PyData.depthAll
  have := h.dp z.1
  have := h2.dp z.2.1
  have := h3.dp z.2.2
  omega, fun z y => by
  simp only [Dt.py, Dt.pyL]
  unfold PyData.eqv PyData.eqvAll PyData.eqvAll PyData.eqvAll PyData.eqvAll
  rw [h.eq, h2.eq, h3.eq, Bool.and_true]
  rfl⟩
end Vs

/-! Tests that are known, dict displays, lists that grow, data of any kind. -/
namespace Vs
open PySem PySem.Spec L2
section
variable {X : Cx} {K : PySem.W.Frag} {W : WX} {sv : Sv} {G : Env} {rest : List Stmt} {o : Out} {pos : Pos}
/-- a test that is known: no -/
theorem run_skip {c : Expr} {thn : List Stmt} (hc : EB (one X) K G c false) (k : Run X K W sv rest G o) : Run X K W sv (.If c thn [] pos :: rest) G o := fun F H σ fps D Eo s q =>
  ⟨tSeq (tIfS (wpT (one X) c) tNever tNext) (wpSs X rest), pss_cons (ps_if pt_w1 pss_never pss_nil) pss_wp, hc F H σ fps _ Eo fun F1 H1 u => k F1 H1 σ fps D (Eo.up u) s (q.le u.le)⟩
/-- .. yes, and the branch doesn't fall through -/
theorem run_take {c : Expr} {thn els : List Stmt} (hc : EB (one X) K G c true) (hn : NoNx o) (k : Run X K W sv thn G o) : Run X K W sv (.If c thn els pos :: rest) G o := fun F H σ fps D Eo s q =>
  ⟨tSeq (tIfS (wpT (one X) c) (wpSs X thn) tNever) tNever, pss_cons (ps_if pt_w1 pss_wp pss_never) pss_never, hc F H σ fps _ Eo fun F1 H1 u =>
    k F1 H1 σ fps _ (Eo.up u) s (Fin.ends (D := D) (D' := { D with nx := tNever D }) (o := o) rfl rfl rfl hn (q.le u.le))⟩
end
theorem units_of {A : Around} {k : Nat} (hr : Room k A) : A.units + 64 < cLine := hr.units
/-! ### dict displays -/
section
variable {I : Type} {X : I → Cx} {K : PySem.W.Frag} {G : Env}
theorem en_dic0 {pos : Pos} : EN X K G (.Dict [] [] pos) (.od []) := fun F H σ fps Q k q =>
  ⟨tDNewK, fun _ => pe_dnewK, fun d hd => by
    refine q F (upd H d (.dK [])) (.ref d) [d] (Up.layH k.sub hd) (.od upd_same (Nat.zero_le _) .nil List.nodup_nil) fun a ha => ?_
    obtain rfl : a = d := by simpa using ha
    exact ⟨hd, k.sub.none hd, by rw [upd_same]; simp⟩⟩
theorem en_dic1 {k v : Expr} {pos : Pos} {s : Str} {d : Dt} (hk : EX X K G k (.str s)) (hv : EX X K G v d) : EN X K G (.Dict [some k] [v] pos) (.od [(.inr s, d)]) := fun F H σ fps Q E q =>
  ⟨tDisp [(wpE X k, wpE X v)], fun j => pe_disp (pps_cons (pe_wp j) (pe_wp j) pps_nil) rfl rfl (fun z => by cases z) (Nat.le_of_ble_eq_true rfl), fun p hp => by
    have u0 : Up F H F (upd H p (.dK [])) := Up.layH E.sub hp
    refine hk F _ σ fps _ (E.up u0) fun F1 H1 x u1 r1 => hv F1 H1 σ fps _ ((E.up u0).up u1) fun F2 H2 y u2 r2 => ?_
    cases r1
    rename_i gs
    have hF : F p = none := E.sub.none hp
    have h2 : H2 p = some (.dK []) := u2.hp.h (u1.hp.h upd_same)
    have f1 : F1 p = none := u1.nw p hF (by rw [upd_same]; simp)
    have f2 : F2 p = none := u2.nw p f1 (by rw [u1.hp.h upd_same]; simp)
    refine ⟨h2, [(.inr s, y)], rfl, Nat.le_of_ble_eq_true rfl, ?_⟩
    refine q F2 (upd H2 p (.dK [(.inr s, y)])) (.ref p) [p] ⟨(u1.trans u2).fr, ?_, fun a z z' => ?_, fun a o z => ?_⟩ (.od upd_same (by show 1 ≤ big; decide) (.cons gs r2 .nil) (by simp)) fun a ha => ?_
    · exact ExO.within (O := fun a => a = p) (u0.trans (u1.trans u2)).hp ((ExO.refl _).upd h2 rfl rfl) fun a e => by rw [e]; exact hp
    · exact (u0.trans (u1.trans u2)).nw a z z'
    · have hne : a ≠ p := fun e => by subst e; rw [f2] at z; cases z
      rcases u2.sb a o z with b | ⟨b, ob', b'⟩
      · exact .inl (by rw [upd_ne hne]; exact b)
      · exact .inr ⟨b, ob', by rw [upd_ne hne]; exact b'⟩
    · obtain rfl : a = p := by simpa using ha
      exact ⟨hp, f2, by rw [upd_same]; simp⟩⟩
/-! ### and, or with a known part -/
theorem ex_andT {a e : Expr} {rest : List Expr} {y : Bool} {pos : Pos} (h : EX X K G a (.bl true)) (hr : EX X K G (.BoolOp .And (e :: rest) pos) (.bl y)) : EX X K G (.BoolOp .And (a :: e :: rest) pos) (.bl y) := ex_and h fun _ => hr
theorem ex_orF {a e : Expr} {rest : List Expr} {y : Bool} {pos : Pos} (h : EX X K G a (.bl false)) (hr : EX X K G (.BoolOp .Or (e :: rest) pos) (.bl y)) : EX X K G (.BoolOp .Or (a :: e :: rest) pos) (.bl y) := ex_or h fun _ => hr
theorem ex_andF {a e : Expr} {rest : List Expr} {pos : Pos} (h : EX X K G a (.bl false)) : EX X K G (.BoolOp .And (a :: e :: rest) pos) (.bl false) := ex_and (y := true) h fun z => nomatch z
theorem ex_orT {a e : Expr} {rest : List Expr} {pos : Pos} (h : EX X K G a (.bl true)) : EX X K G (.BoolOp .Or (a :: e :: rest) pos) (.bl true) := ex_or (y := true) h fun z => nomatch z
theorem ebw_andT {a e : Expr} {rest : List Expr} {y : Bool} {pos : Pos} (h : EB X K G a true) (hr : EBW X K G (.BoolOp .And (e :: rest) pos) y) : EBW X K G (.BoolOp .And (a :: e :: rest) pos) y := ebw_and h fun _ => hr
theorem ebw_orF {a e : Expr} {rest : List Expr} {y : Bool} {pos : Pos} (h : EB X K G a false) (hr : EBW X K G (.BoolOp .Or (e :: rest) pos) y) : EBW X K G (.BoolOp .Or (a :: e :: rest) pos) y := ebw_or h fun _ => hr
theorem ebw_andF {a e : Expr} {rest : List Expr} {pos : Pos} (h : EB X K G a false) : EBW X K G (.BoolOp .And (a :: e :: rest) pos) false := ebw_and (y := true) h fun z => nomatch z
theorem ebw_orT {a e : Expr} {rest : List Expr} {pos : Pos} (h : EB X K G a true) : EBW X K G (.BoolOp .Or (a :: e :: rest) pos) true := ebw_or (y := true) h fun z => nomatch z
/-! ### isinstance of any data -/
def isT_str : Dt → Bool
  | .str _ => true
  | _ => false
def isT_bool : Dt → Bool
  | .bl _ => true
  | _ => false
theorem kit_str : ∀ d : Dt, kitB d.ty "str" = some (isT_str d)
  | .non => by decide +kernel
  | .bl _ => (by decide +kernel : kitB "bool" "str" = some false)
  | .int _ => (by decide +kernel : kitB "int" "str" = some false)
  | .str _ => (by decide +kernel : kitB "str" "str" = some true)
  | .lst _ => (by decide +kernel : kitB "list" "str" = some false)
  | .tup _ => (by decide +kernel : kitB "tuple" "str" = some false)
  | .dic _ => (by decide +kernel : kitB "dict" "str" = some false)
  | .dit _ => (by decide +kernel : kitB "dict" "str" = some false)
  | .ins _ _ => (by decide +kernel : kitB "object" "str" = some false)
  | .scr _ => (by decide +kernel : kitB "list" "str" = some false)
theorem kit_strF {d : Dt} (h : isT_str d = false) : kitB d.ty "str" = some false := by rw [kit_str d, h]
end
section
variable {X : Cx} {K : PySem.W.Frag} {W : WX} {sv : Sv} {G : Env} {rest : List Stmt} {o : Out} {pos : Pos}
/-- y = [.. for ..], y no cell -/
theorem run_asgLc {A B : Type} {elt tg iter : Expr} {ifs : List Expr} {scope : Scope} {own : List (Str × Nat)} {lpos pos' : Pos} {g : TG} {js : List Nat} {xs : List A} {i : Nat} {x : Str} {v : B} (encB : B → List Dt) (Gk : B → Env) (oF : B → Out) (Pb : B → Prop) (enc : A → Dt) (Gb : A → Env) (p : A → Bool) (f : A → Dt)
    (hc : ∀ i, (one X i).calm = true) (hN : ∀ i, (one X i).N.Nodup) (hi : ISrc (one X) K G tg iter (xs.map enc)) (hn : xs.length ≤ big) (ok : ∀ i, BlkOk (one X i).N (one X i).env.scope scope own) (hjs : ∀ j ∈ js, j ∈ own.map (·.2))
    (hg : ∀ b, PG (blkX (one X) scope b) tg g) (hB : ∀ x, Bd K g js (enc x) (wipeG G (own.map (·.2))) (Gb x))
    (ht : ∃ t : TT, (∀ i, PTs (blkX (one X) scope i) ifs t) ∧ ∀ x, x ∈ xs → ∀ F H σ fps (Q : Bool → Hp → Prop), EnvOk K F H σ (Gb x) fps → (∀ F' H', Up F H F' H' → Q (p x) H') → t σ H Q)
    (he : ∀ x, x ∈ xs → p x = true → EX (blkX (one X) scope) K (Gb x) elt (f x)) (hv : encB v = xs.filterMap fun x => if p x then some (f x) else none) (hp : Pb v) (k : ∀ y, Pb y → Run X K W sv rest (Gk y) (oF y))
    (hy : X.N[i]? = some x) (hyl : X.env.scope.names.lookup x = some .local) (hl : i < G.length) (hsv : memN sv.ks i = false)
    (hsw : swapsWith (.ListComp elt [⟨tg, iter, ifs, 0⟩] scope lpos) (some (.Name x pos')) pos.line X.env = pure true) (hG : ∀ y, G.set i (some (.ol (encB y))) = Gk y) (ho : oF v = o := by rfl) :
    Run X K W sv (.Assign [.Name x pos'] (.ListComp elt [⟨tg, iter, ifs, 0⟩] scope lpos) pos :: rest) G o := by
  subst ho
  intro F H σ fps D Eo s q
  obtain ⟨wi, tt, h1, h2, h3, h4⟩ := lc_readL (pos := lpos) (K := K) (G := G) (fun _ _ _ => True) enc Gb p f hc hN hi.lk hn ok hjs hg hB ht he
  refine ⟨tSeq (tAsg (tLc wi g tt (wpE (blkX (one X) scope) elt) (own.map (·.2))) (gName i)) (wpSs X rest), pss_cons (ps_setLc (hc ()) (hN ()) hy hyl hsw (h1 ()) (ok ()) (fun s H C cl fp => hg ⟨(), s, H, C, cl, fp⟩) (fun s H C cl fp => h3 ⟨(), s, H, C, cl, fp⟩) (fun s H C cl fp => pe_wp (X := blkX (one X) scope) ⟨(), s, H, C, cl, fp⟩) (h2 ())) pss_wp, ?_⟩
  show tLc wi g tt (wpE (blkX (one X) scope) elt) (own.map (·.2)) σ H fun x H1 => wpSs X rest D (σ.set i (some x)) H1
  refine h4 F H σ fps _ Eo trivial fun F1 H1 w fp u r n => ?_
  rw [← hv] at r
  have E1 : EnvOk K F1 H1 (σ.set i (some w)) (G.set i (some (.ol (encB v)))) (put fps i fp) := (Eo.up u).set hl r (fun a ha => ⟨(n a ha).2.1, (n a ha).2.2⟩) fun a ha j _ z => (Eo.own j a z).2 (n a ha).1
  rw [hG v] at E1
  exact k v hp F1 H1 _ _ D E1 (s.set hsv) (q.le (u.leSet fun a ha => (n a ha).1))
end
end Vs

/-! A law's end. -/
namespace Vs
open PySem PySem.Spec L2
/-- the end of a law over a head by facts: exceptions may fly within, and the script's numbers have no more than 2^20 bits; cs: the code objects that make lambdas, and their tables -/
theorem walkT {l : PySem.W.OpenLaw} {q : Program} {loose : List Str} {XP : (Str → Option Value) → Heap → Prop} {YP : World → Heap → Prop} {d : DefRec} {k : Nat} {x : Str} {r : List Dt → Sum Cell Xc → Prop}
    (hn : l.most = some 63) (hdf : d.params.defaults = []) (hr : Room k callerA)
    (F : ∀ (w : World) (mg : Str → Option Value) (fa : Addr) (h : Heap), YP w h → h.Ns mainGlobals mg → mg d.name = some (.ref fa) →
      ∃ (K : PySem.W.Frag) (fd : FuncData) (cs : List (Addr × Addr)), K.In h ∧ (∀ p ∈ cs, h.get? p.2 = some { cls := .none, data := .fields #[] }) ∧ (∀ p ∈ cs, K.lookup p.2 = none) ∧ (∀ p ∈ cs, PySem.W.CodeHd h p.1 p.2) ∧ (∀ P, TabAt K P → ∃ p ∈ cs, p.2 = P) ∧
        (∀ (s : Shared) (u : Value), BindsTo s fd ⟨[u], []⟩ [(x, u)]) ∧ ∀ base : Heap, K.In base → base.Ns mainGlobals mg → (∀ p ∈ cs, LamX.TabB base mg p.1 p.2) → FnOk l.prog w K mg base (L2.CX l.prog w) k fa fd [x] (spR K 1 r))
    (hR : ∀ ns : List Int, ns.length ≤ 63 → r [.scr (ns.map Dt.int)] (.inl (.fz (.bl true)))) :
    PySem.W.WalkO q loose XP YP l.row.toRowW d [] (fun f vs => PySem.call f vs) := by
  refine Att.attach_callB hn hdf fun w s₀ s₁ mg mb fa o pm cd doc a vs ns G Y ho hd hcd hmg hobj hints hlen hbits hg => ?_
  obtain ⟨K, fd, cs, KX, hT, nT, C, hTab, hb, hF⟩ := F w mg fa _ Y G.T.g hmg
  have hl : ns.length ≤ sizeLine := Nat.le_trans hlen (by rw [sizeLine_eq]; decide)
  have hInts : ∀ (H : Hp) (zs : List Int), RepL K H (zs.map V.int) (zs.map Dt.int) := fun H zs => by
    induction zs with
    | nil => exact .nil
    | cons z zs ih => exact .cons (.int z) ih
  refine LamX.law_callTs KX G.T.g G.T.b G.T.builtins G.T.nolimit hg hT nT C G.T.bmain hobj hints hl hr hF hb (fun H hH hS => ?_) fun H e s' hx => ?_
  · have hF : ∃ F : Hp, Sub F H ∧ (∀ p ∈ cs, F p.2 = none) ∧ SqL K F a (ns.map V.int) := by
      classical
      have hd : ∀ b, ∃ o : Option HO, ((∃ ps, H b = some (.tbl ps)) → o = none) ∧ ((¬ ∃ ps, H b = some (.tbl ps)) → o = H b) := fun b => by
        by_cases y : ∃ ps, H b = some (.tbl ps)
        · exact ⟨none, fun _ => rfl, fun n => absurd y n⟩
        · exact ⟨H b, fun n => absurd n y, fun _ => rfl⟩
      have hF := fun b => (hd b).choose_spec
      refine ⟨fun b => (hd b).choose, fun b o z => ?_, fun p hp => (hF p.2).1 ⟨_, hH p hp⟩, ?_⟩
      · by_cases y : ∃ ps, H b = some (.tbl ps)
        · have z : (hd b).choose = some o := z
          rw [(hF b).1 y] at z; cases z
        · have z : (hd b).choose = some o := z
          rw [(hF b).2 y] at z; exact .inl z
      · rcases hS with (z | ⟨ob, z⟩) | z
        · exact .inl (.inl (((hF a).2 fun ⟨ps, y⟩ => by rw [z] at y; cases y).trans z))
        · exact .inl (.inr ⟨ob, ((hF a).2 fun ⟨ps, y⟩ => by rw [z] at y; cases y).trans z⟩)
        · exact .inr z
    obtain ⟨F, hF1, hF2, hF3⟩ := hF
    refine ⟨F, [.scr (ns.map Dt.int)], _, ⟨hF1, fun P hP => ?_⟩, .cons (.scr hF3 ?_ (hInts F ns)) .nil, rfl, hR ns hlen, fun F' H' v fp u rc _ => ?_⟩
    · obtain ⟨p, hp, e⟩ := hTab P hP
      subst e
      exact ⟨hF2 p hp, LamX.TabS.nil (hH p hp)⟩
    · rw [List.length_map]
      exact Nat.le_trans hlen (by decide)
    · cases rc.there.2
      rfl
  · obtain ⟨_, _, _, _, _, _, _, _, _, _, _, _, z⟩ := hx
    exact z.elim
/-- .. where no lambda is made -/
theorem walkW {l : PySem.W.OpenLaw} {q : Program} {loose : List Str} {XP : (Str → Option Value) → Heap → Prop} {YP : World → Heap → Prop} {d : DefRec} {k : Nat} {x : Str} {r : List Dt → Sum Cell Xc → Prop}
    (hn : l.most = some 63) (hdf : d.params.defaults = []) (hr : Room k callerA)
    (F : ∀ (w : World) (mg : Str → Option Value) (fa : Addr) (h : Heap), YP w h → h.Ns mainGlobals mg → mg d.name = some (.ref fa) →
      ∃ (K : PySem.W.Frag) (fd : FuncData), K.In h ∧ lamB K = false ∧ (∀ (s : Shared) (u : Value), BindsTo s fd ⟨[u], []⟩ [(x, u)]) ∧ ∀ base : Heap, K.In base → base.Ns mainGlobals mg → FnOk l.prog w K mg base (L2.CX l.prog w) k fa fd [x] (spR K 1 r))
    (hR : ∀ ns : List Int, ns.length ≤ 63 → r [.scr (ns.map Dt.int)] (.inl (.fz (.bl true)))) :
    PySem.W.WalkO q loose XP YP l.row.toRowW d [] (fun f vs => PySem.call f vs) :=
  walkT hn hdf hr (fun w mg fa h Y G e => by
    obtain ⟨K, fd, KX, hB, hb, hF⟩ := F w mg fa h Y G e
    exact ⟨K, fd, [], KX, by simp, by simp, by simp, fun P hP => (by have z := hP.1; rw [hB] at z; cases z), hb, fun base a b _ => hF base a b⟩) hR
end Vs

/-! Own cells at their places: seen, stored into. Options opened. -/
namespace Vs
open PySem PySem.Spec L2
section
variable {I : Type} {X : I → Cx} {K : PySem.W.Frag} {G : Env}
theorem encO_get {A : Type} [Inhabited A] (f : A → Dt) {o : Option A} (h : isNo o = false) : encO f o = f (o.getD default) := by
  cases o with
  | none => cases h
  | some x => rfl
theorem x_get {A : Type} [Inhabited A] (f : A → Dt) {e : Expr} {o : Option A} (h : EX X K G e (encO f o)) (hn : isNo o = false) : EX X K G e (f (o.getD default)) := h.is (encO_get f hn)
end
theorem ixN_lit {n : Nat} {k : Nat} (h : k < n) : ixN n (k : Int) = some k := by
  unfold ixN
  rw [if_pos (by omega), if_pos (by omega)]
  rfl
theorem ixN_int {n : Nat} {i : Int} (h0 : 0 ≤ i) (h : i < n) : ixN n i = some i.toNat := by
  unfold ixN
  rw [if_pos (by omega), if_pos (by omega)]
theorem repL_set {K : PySem.W.Frag} {F : Hp} : ∀ {vs : List V} {ds : List Dt}, RepL K F vs ds → ∀ (j : Nat) {v : V} {d : Dt}, Rep K F v d → RepL K F (vs.set j v) (ds.set j d)
  | _, _, .nil, _, _, _, _ => .nil
  | _, _, .cons h r, 0, _, _, q => .cons q r
  | _, _, .cons h r, j + 1, _, _, q => .cons h (repL_set r j q)

/-! ### what stands at a place -/
section
variable {K : PySem.W.Frag} {F H : Hp} {σ : L2.St} {G : Env} {fps : Nat → List Addr} {i : Nat} {π : List Nat} {c : Cell} {v : V}
theorem EnvOk.loc (E : EnvOk K F H σ G fps) (h : atG G i π = some c) (l : LocG H σ i π v) : ∃ fpc, RepC K F H fpc v c ∧ ∀ a ∈ fpc, Owns fps a := by
  obtain ⟨v', fpc, fps1, l', r, _, ow, _⟩ := E.take h
  obtain rfl := l.fun l'
  exact ⟨fpc, r, fun a ha => (ow a).mpr (.inr ha)⟩
/-- the cell at a place becomes another one -/
theorem EnvOk.chg (E : EnvOk K F H σ G fps) (h : atG G i π = some c) (l : LocG H σ i π v) :
    ∃ fpc, RepC K F H fpc v c ∧ (∀ a ∈ fpc, Owns fps a) ∧ ∀ (F2 H2 : Hp) (fp2 : List Addr) (c2 : Cell), Ex F F2 → Sub F2 H2 → ExO (fun a => a ∈ fpc) H H2 → (∀ a, a ∉ fpc → F a = none → H a ≠ none → F2 a = none) →
      RepC K F2 H2 fp2 v c2 → (∀ a ∈ fp2, F2 a = none ∧ H2 a ≠ none ∧ (a ∈ fpc ∨ H a = none)) → ∃ fps2, EnvOk K F2 H2 σ (updG G i π c2) fps2 ∧ Le (Owns fps) F H F2 H2 (Owns fps2) := by
  obtain ⟨v', fpc, fps1, l', r, E1, ow, ds⟩ := E.take h
  obtain rfl := l.fun l'
  refine ⟨fpc, r, fun a ha => (ow a).mpr (.inr ha), fun F2 H2 fp2 c2 ex sb kp nw r2 n2 => ?_⟩
  have E2 : EnvOk K F2 H2 σ (updG G i π (.hl v)) fps1 := E1.keep ex sb kp (fun a ha y => ds a y ha) (fun a ha => nw a (fun y => ds a y ha) (E1.ownF ha).1 (E1.ownF ha).2) fun P h => nw P (tab_out (E.tab P h).2 r.all) (E.tab P h).1 (tab_there (E.tab P h).2)
  have dj : ∀ a ∈ fp2, ¬ Owns fps1 a := fun a ha z => by
    rcases (n2 a ha).2.2 with y | y
    · exact ds a y z
    · exact (E1.ownF z).2 y
  obtain ⟨fps3, E3, o3⟩ := E2.give (atG_upd h) r2 (fun a ha => ⟨(n2 a ha).1, (n2 a ha).2.1⟩) dj
  rw [updG_upd] at E3
  refine ⟨fps3, E3, ⟨ex, kp.imp fun a y => (ow a).mpr (.inr y), fun a ho z z' => nw a (fun y => ho ((ow a).mpr (.inr y))) z z', fun a ha => ?_⟩⟩
  rcases (o3 a).mp ha with y | y
  · exact .inl ((ow a).mpr (.inl y))
  · rcases (n2 a y).2.2 with z | z
    · exact .inl ((ow a).mpr (.inr z))
    · exact .inr z
/-- one own object is written anew -/
theorem EnvOk.set1 (E : EnvOk K F H σ G fps) (h : atG G i π = some c) {p : Addr} (l : LocG H σ i π (.ref p)) {fq : List Addr} (hfp : ∀ fpc, RepC K F H fpc (.ref p) c → ∀ a, a ∈ fpc ↔ a = p ∨ a ∈ fq) (ob : HO) (c2 : Cell) (r2 : RepC K F (upd H p ob) (p :: fq) (.ref p) c2) :
    ∃ fps2, EnvOk K F (upd H p ob) σ (updG G i π c2) fps2 ∧ Le (Owns fps) F H F (upd H p ob) (Owns fps2) := by
  obtain ⟨fpc, r, ow, go⟩ := E.chg h l
  have hm := hfp fpc r
  have op := ow p ((hm p).mpr (.inl rfl))
  have hF := (E.ownF op).1
  refine go F _ (p :: fq) c2 (Ex.refl _) (fun a o z => ?_) ?_ (fun a _ z _ => z) r2 fun a ha => ?_
  · have hne : a ≠ p := fun e => by subst e; rw [hF] at z; cases z
    rcases E.sub a o z with b | ⟨b, ob', b'⟩
    · exact .inl (by rw [upd_ne hne]; exact b)
    · exact .inr ⟨b, ob', by rw [upd_ne hne]; exact b'⟩
  · have hp' := (hm p).mpr (.inl rfl)
    obtain ⟨o, h1, h2⟩ := r.here (fun z => by rw [z] at hp'; cases hp')
    exact (ExO.refl H).upd h1 h2 hp'
  · have ha' : a ∈ fpc := (hm a).mpr (List.mem_cons.mp ha)
    refine ⟨(E.ownF (ow a ha')).1, ?_, .inl ha'⟩
    by_cases e : a = p
    · subst e; rw [upd_same]; simp
    · rw [upd_ne e]; exact (E.ownF (ow a ha')).2
theorem LocV.snocF {H : Hp} {p C dx : Addr} {vs : List (Str × V)} {j : Nat} {f : Str} {w : V} (hp : H p = some (.ins C dx vs)) (hj : vs[j]? = some (f, w)) : ∀ {π : List Nat} {u : V}, LocV H u π (.ref p) → LocV H u (π ++ [j]) w
  | _, _, .nil => .fld hp hj .nil
  | _, _, .fld a b c => .fld a b (c.snocF hp hj)
  | _, _, .key a b c => .key a b (c.snocF hp hj)
theorem LocV.snocK {H : Hp} {p : Addr} {vs : List (Key × V)} {j : Nat} {k : Key} {w : V} (hp : H p = some (.dK vs)) (hj : vs[j]? = some (k, w)) : ∀ {π : List Nat} {u : V}, LocV H u π (.ref p) → LocV H u (π ++ [j]) w
  | _, _, .nil => .key hp hj .nil
  | _, _, .fld a b c => .fld a b (c.snocK hp hj)
  | _, _, .key a b c => .key a b (c.snocK hp hj)
end
/-! ### names of fields -/
def ixF (f : Str) : List (Str × Cell) → Option Nat
  | [] => none
  | (g, _) :: r => if g = f then some 0 else (ixF f r).map (· + 1)
theorem repCF_ix {K : PySem.W.Frag} {F H : Hp} {f : Str} : ∀ {fp : List Addr} {vs : List (Str × V)} {fs : List (Str × Cell)}, RepCF K F H fp vs fs → ∀ {j : Nat}, ixF f fs = some j → ∃ w, vs[j]? = some (f, w) ∧ vs.lookup f = some w
  | _, _, _, .nil, j, h => by cases h
  | _, _, _, .cons (k := g) (v := v) _ rs _, j, h => by
    unfold ixF at h
    by_cases e : g = f
    · subst e
      rw [if_pos rfl] at h; cases h
      exact ⟨v, rfl, by rw [List.lookup_cons, beq_self_eq_true]⟩
    · rw [if_neg e] at h
      cases q : ixF f _ with
      | none => rw [q] at h; cases h
      | some m =>
        rw [q] at h; cases h
        obtain ⟨w, h1, h2⟩ := repCF_ix rs q
        refine ⟨w, by simpa using h1, ?_⟩
        have e' : (f == g) = false := by simpa using fun z : f = g => e z.symm
        rw [List.lookup_cons, e']
        exact h2
section
variable {I : Type}
/-- e is the own thing at a place -/
def EP (X : I → Cx) (K : PySem.W.Frag) (G : Env) (e : Expr) (i : Nat) (π : List Nat) : Prop :=
  ∀ F H σ fps (Q : VK), EnvOk K F H σ G fps → (∀ F' H' v, Up F H F' H' → LocG H' σ i π v → Q v H') → wpE X e σ H Q
variable {X : I → Cx} {K : PySem.W.Frag} {G : Env}
theorem ep_var {i : Nat} {x : Str} {pos : Pos} {c : Cell} (hg : G[i]? = some (some c)) (hN : ∀ j, (X j).N[i]? = some x) (hv : ∀ j, Vis (X j).env.scope x)
    (hd : (x == ("__debug__" : Str)) = false := by decide) (hcd : (x == ("__classdict__" : Str)) = false := by decide) : EP X K G (.Name x pos) i [] := fun F H σ fps Q e q => by
  obtain ⟨v, h1, r⟩ := e.ent i _ hg
  exact ⟨tVar i, fun j => pe_var (hN j) (hv j) hd hcd, v, h1, q F H v (Up.refl e.sub) ⟨v, h1, .nil⟩⟩
/-- the name in slot i, own -/
theorem pp (i : Nat) {x : Str} {pos : Pos} {c : Cell} (hg : G[i]? = some (some c)) (hN : ∀ j, (X j).N[i]? = some x := by intro _; rfl) (hv : ∀ j, Vis (X j).env.scope x := by intro _; first | exact Or.inl rfl | exact Or.inr (Or.inl rfl) | exact Or.inr (Or.inr rfl))
    (hd : (x == ("__debug__" : Str)) = false := by decide) (hcd : (x == ("__classdict__" : Str)) = false := by decide) : EP X K G (.Name x pos) i [] := ep_var hg hN hv hd hcd
theorem EP.es {e : Expr} {i : Nat} {π : List Nat} {ds : List Dt} (h : EP X K G e i π) (hg : atG G i π = some (.ol ds)) : ES X K G e false ds := fun F H σ fps Q E q =>
  h F H σ fps _ E fun F1 H1 v u l => by
    obtain ⟨fpc, r, _⟩ := (E.up u).loc hg l
    obtain ⟨p, vs, rfl, _, h2, l, r⟩ := r.ol_inv
    exact q F1 H1 p vs u (SqL.of h2) l r
theorem EP.ex {e : Expr} {i : Nat} {π : List Nat} {d : Dt} (h : EP X K G e i π) (hg : atG G i π = some (.fz d)) : EX X K G e d := fun F H σ fps Q E q =>
  h F H σ fps _ E fun F1 H1 v u l => by
    obtain ⟨fpc, r, _⟩ := (E.up u).loc hg l
    exact q F1 H1 v u r.there.2
end
section
variable {X : Cx} {K : PySem.W.Frag} {W : WX} {sv : Sv} {G : Env} {rest : List Stmt} {o : Out} {pos : Pos}
/-- xs.append(e), xs an own list -/
theorem run_append {A : Type} {i : Nat} {π : List Nat} {t e : Expr} {apos cpos : Pos} {xs : List A} {y : A} {G' : Env} (f : A → Dt) (hK : X.K = K) (ht : EP (one X) K G t i π) (hg : atG G i π = some (.ol (xs.map f))) (h : EX (one X) K G e (f y)) (hn : xs.length + 1 ≤ big)
    (hG : updG G i π (.ol ((xs ++ [y]).map f)) = G') (k : Run X K W sv rest G' o)
    (hbase : attributeBase t "append" X.env (eval t X.env) = eval t X.env := by rfl)
    (hfew : ((backTo cpos (starEach [e] X.env)).all (fun x => !x.1) && (backToKw cpos (keywordEach [] X.env)).all (fun x => x.1.isSome) && decide (([e] : List Expr).length + ([] : List Keyword).length + (if ([] : List Keyword).isEmpty then 0 else 1) < 30)) = true := by rfl)
    (hline : (apos.endLine == cpos.line) = true := by rfl) (hs : starEach [e] X.env = [(false, eval e X.env)] := by rfl) (hplain : (backTo cpos (starEach ([] : List Expr) X.env)).any (·.1) = false := by rfl)
    (hsw : swapsWith (.Call (.Attribute t "append" apos) [e] [] cpos) none pos.line X.env = pure false := by rfl) :
    Run X K W sv (.Expr (.Call (.Attribute t "append" apos) [e] [] cpos) pos :: rest) G o := fun F H σ fps D Eo s q => by
  subst hG
  refine ⟨tSeq (tDrop (tBM X.K "list" rAppend (wpE (one X) t) (tCons (wpE (one X) e) tNil))) (wpSs X rest), pss_cons (ps_expr (pe_bm PySem.F.plainAttrs_list PySem.F.slot_list_append PySem.F.type_list_append mt_append pe_w1 (pa_cons pe_w1 pa_nil hs) hbase hfew hline hs hplain) hsw) pss_wp, ht F H σ fps _ Eo fun F0 H0 v u0 l0 => ?_⟩
  obtain ⟨fpc0, r0, _⟩ := (Eo.up u0).loc hg l0
  obtain ⟨p, vs, rfl, _, h2, l, r⟩ := r0.ol_inv
  refine ⟨.inl ⟨rfl, vs, SqL.of h2⟩, h F0 H0 σ fps _ (Eo.up u0) fun F1 H1 w u r1 => ?_⟩
  have E1 := (Eo.up u0).up u
  have hlen : vs.length + 1 ≤ big := by rw [r.len, List.length_map]; exact hn
  refine ⟨p, vs, w, rfl, rfl, u.hp.h h2, Nat.lt_of_lt_of_le (Nat.lt_succ_self _) (Nat.le_trans hlen big_line), ?_⟩
  obtain ⟨fps2, E2, le2⟩ := E1.set1 (fq := []) hg (l0.mono u.hp) (fun fpc r a => by obtain ⟨p', _, e1, e2, _⟩ := r.ol_inv; cases e1; rw [e2]; simp) (.lst (vs ++ [w])) (.ol ((xs ++ [y]).map f)) (.ol upd_same (by rw [List.length_append]; exact hlen) (by rw [List.map_append]; exact (r.mono u.fr).append (.cons r1 .nil)))
  exact k F1 _ σ fps2 D E2 s (q.le ((u0.trans u).le.trans le2))
/-- xs.clear(), xs an own list -/
theorem run_clear {i : Nat} {π : List Nat} {t : Expr} {apos cpos : Pos} {ds : List Dt} {G' : Env} (hK : X.K = K) (ht : EP (one X) K G t i π) (hg : atG G i π = some (.ol ds)) (hG : updG G i π (.ol []) = G') (k : Run X K W sv rest G' o)
    (hbase : attributeBase t "clear" X.env (eval t X.env) = eval t X.env := by rfl)
    (hline : (apos.endLine == cpos.line) = true := by rfl)
    (hsw : swapsWith (.Call (.Attribute t "clear" apos) [] [] cpos) none pos.line X.env = pure false := by rfl) :
    Run X K W sv (.Expr (.Call (.Attribute t "clear" apos) [] [] cpos) pos :: rest) G o := fun F H σ fps D Eo s q => by
  subst hG
  refine ⟨tSeq (tDrop _) (wpSs X rest), pss_cons (ps_expr (pe_bm0 PySem.F.plainAttrs_list PySem.F.slot_list_clear PySem.F.type_list_clear mt_clear pe_w1 hbase hline) hsw) pss_wp, ht F H σ fps _ Eo fun F0 H0 v u0 l0 => ?_⟩
  obtain ⟨fpc0, r0, _⟩ := (Eo.up u0).loc hg l0
  obtain ⟨p, vs, rfl, _, h2, l, r⟩ := r0.ol_inv
  obtain ⟨fps2, E2, le2⟩ := (Eo.up u0).set1 (fq := []) hg l0 (fun fpc r a => by obtain ⟨p', _, e1, e2, _⟩ := r.ol_inv; cases e1; rw [e2]; simp) (.lst []) (.ol []) (.ol upd_same (Nat.zero_le _) .nil)
  exact ⟨.inl ⟨rfl, vs, SqL.of h2⟩, p, vs, rfl, rfl, h2, k F0 _ σ fps2 D E2 s (q.le (u0.le.trans le2))⟩
/-- xs[i] = e, xs an own list -/
theorem run_setL {A : Type} {i : Nat} {π : List Nat} {t e ie : Expr} {sp : Pos} {xs : List A} {y : A} {n : Int} {j : Nat} {G' : Env} (f : A → Dt) (ht : EP (one X) K G t i π) (hg : atG G i π = some (.ol (xs.map f))) (h : EX (one X) K G e (f y)) (hi : EX (one X) K G ie (.int n)) (hj : ixN xs.length n = some j) (hPG : PG X (.Subscript t ie sp) (gSub (wpE (one X) t) (wpE (one X) ie) rSetL))
    (hG : updG G i π (.ol ((xs.set j y).map f)) = G') (k : Run X K W sv rest G' o) (hs : swapsWithSole [.Subscript t ie sp] e pos.line X.env = pure false := by rfl)
    (hw : swappedStores [.Subscript t ie sp] e X.env = pure none := by rfl) (h1 : (assignEach [.Subscript t ie sp] X.env).map (·.2) = [assign (.Subscript t ie sp) X.env] := by rfl) :
    Run X K W sv (.Assign [.Subscript t ie sp] e pos :: rest) G o := fun F H σ fps D Eo s q => by
  subst hG
  refine ⟨tSeq (tAsg (wpE (one X) e) (gSub (wpE (one X) t) (wpE (one X) ie) rSetL)) (wpSs X rest), pss_cons (ps_asg pe_w1 hPG hs hw h1) pss_wp, h F H σ fps _ Eo fun F1 H1 w u r1 => ?_⟩
  refine ht F1 H1 σ fps _ (Eo.up u) fun F0 H0 v u0 l0 => ?_
  obtain ⟨fpc0, r0, _⟩ := ((Eo.up u).up u0).loc hg l0
  obtain ⟨p, vs, rfl, _, b2, l, r⟩ := r0.ol_inv
  refine hi F0 H0 σ fps _ ((Eo.up u).up u0) fun F2 H2 m u2 r2 => ?_
  cases r2
  have E2 := ((Eo.up u).up u0).up u2
  have hlen : vs.length = xs.length := by rw [r.len, List.length_map]
  have nw : RepL K F2 (vs.set j w) ((xs.set j y).map f) := by
    rw [List.map_set]
    exact repL_set (r.mono u2.fr) j (r1.mono (u0.trans u2).fr)
  obtain ⟨fps2, E3, le2⟩ := E2.set1 (fq := []) hg (l0.mono u2.hp) (fun fpc r a => by obtain ⟨p', _, e1, e2, _⟩ := r.ol_inv; cases e1; rw [e2]; simp) (.lst (vs.set j w)) (.ol ((xs.set j y).map f)) (.ol upd_same (by rw [List.length_set]; exact l) nw)
  exact ⟨p, vs, n, j, rfl, rfl, u2.hp.h b2, by rw [hlen]; exact hj, k F2 _ σ fps2 D E3 s (q.le (((u.trans u0).trans u2).le.trans le2))⟩
/-- what can't be -/
theorem run_no {ss : List Stmt} (h : False) : Run X K W sv ss G o := h.elim
end
end Vs

/-! while; plain laws of it. -/
namespace Vs
open PySem PySem.Spec L2
/-- so many turns of a while at most -/
def wloop {S T R : Type} (test : S → Bool) (step : S → Step S R) (io : R → T) (k : S → T) : Nat → S → T
  | 0, s => k s
  | n + 1, s => cond (test s) (match step s with
    | .nx s' => wloop test step io k n s'
    | .ct s' => wloop test step io k n s'
    | .bk s' => k s'
    | .fin y => io y) (k s)
def WAll {S R : Type} (P : S → Prop) (Q : S → Prop) (test : S → Bool) (step : S → Step S R) : Nat → S → Prop
  | 0, s => False
  | n + 1, s => P s ∧ (test s = true → match step s with
    | .nx s' => WAll P Q test step n s'
    | .ct s' => WAll P Q test step n s'
    | .bk s' => Q s'
    | .fin _ => True) ∧ (test s = false → Q s)
/-- turns of a while that there may be -/
def wmost : Nat := 1000000
section
variable {S T R : Type} {test : S → Bool} {step : S → Step S R} {io : R → T} {k : S → T} {P : S → Prop} {Q : S → Prop}
/-- by an invariant and a measure -/
theorem w_go (Inv : S → Prop) (μ : S → Nat) (hs : ∀ s, Inv s → P s ∧ (test s = true → ∃ s', (step s = .nx s' ∨ step s = .ct s') ∧ Inv s' ∧ μ s' < μ s) ∧ (test s = false → Q s)) :
    ∀ (n : Nat) (s : S), Inv s → μ s < n → WAll P Q test step n s ∧ ∃ s', wloop test step io k n s = k s' ∧ Inv s' ∧ test s' = false
  | 0, s, _, h => by omega
  | n + 1, s, hi, hm => by
    obtain ⟨hp, ht, hf⟩ := hs s hi
    unfold WAll wloop
    cases e : test s with
    | false => exact ⟨⟨hp, (fun z => by cases z), fun _ => hf e⟩, s, rfl, hi, e⟩
    | true =>
      obtain ⟨s', h1, h2, h3⟩ := ht e
      obtain ⟨a, b⟩ := w_go Inv μ hs n s' h2 (by omega)
      rcases h1 with h1 | h1
      · rw [h1]; exact ⟨⟨hp, (fun _ => a), fun z => by cases z⟩, b⟩
      · rw [h1]; exact ⟨⟨hp, (fun _ => a), fun z => by cases z⟩, b⟩
/-- .. that may end within -/
theorem w_fin (Inv : S → Prop) (μ : S → Nat) (C : T → Prop) (hk : ∀ s, Inv s → test s = false → C (k s)) (hs : ∀ s, Inv s → P s ∧ (test s = true → (∃ s', (step s = .nx s' ∨ step s = .ct s') ∧ Inv s' ∧ μ s' < μ s) ∨ (∃ s', step s = .bk s' ∧ Q s' ∧ C (k s')) ∨ ∃ y, step s = .fin y ∧ C (io y)) ∧ (test s = false → Q s)) :
    ∀ (n : Nat) (s : S), Inv s → μ s < n → WAll P Q test step n s ∧ C (wloop test step io k n s)
  | 0, s, _, h => by omega
  | n + 1, s, hi, hm => by
    obtain ⟨hp, ht, hf⟩ := hs s hi
    unfold WAll wloop
    cases e : test s with
    | false => exact ⟨⟨hp, (fun z => by cases z), fun _ => hf e⟩, hk s hi e⟩
    | true =>
      rcases ht e with ⟨s', h1, h2, h3⟩ | ⟨s', h1, h2, h3⟩ | ⟨y, h1, h2⟩
      · obtain ⟨a, b⟩ := w_fin Inv μ C hk hs n s' h2 (by omega)
        rcases h1 with h1 | h1
        · rw [h1]; exact ⟨⟨hp, (fun _ => a), fun z => by cases z⟩, b⟩
        · rw [h1]; exact ⟨⟨hp, (fun _ => a), fun z => by cases z⟩, b⟩
      · rw [h1]; exact ⟨⟨hp, (fun _ => h2), fun z => by cases z⟩, h3⟩
      · rw [h1]; exact ⟨⟨hp, (fun _ => trivial), fun z => by cases z⟩, h2⟩
end
section
variable {X : Cx} {K : PySem.W.Frag} {W : WX} {sv : Sv} {G : Env} {rest : List Stmt} {o : Out} {pos : Pos} {S T R : Type}
theorem run_while {c : Expr} {body : List Stmt} {P : S → Prop} {Q : S → Prop} {test : S → Bool} {step : S → Step S R} {io : R → T} {k : S → T} (n : Nat) {s0 : S} (Gs : S → Env) (E : T → Out)
    (hp : PassesOwn (model X.prog X.w) X.A X.env X.xe) (hE : ∀ y, Term (E (io y))) (h0 : Weak G (Gs s0)) (hP : WAll P Q test step n s0)
    (hc : ∀ s, P s → EB (one X) K (Gs s) c (test s))
    (hb : ∀ s, P s → test s = true → Run X K W sv body (Gs s) ((step s).out Gs fun y => E (io y)))
    (hk : ∀ s, Q s → Run X K W sv rest (Gs s) (E (k s))) : Run X K W sv (.While c body [] pos :: rest) G (E (wloop test step io k n s0)) := fun F H σ fps D Eo s q => by
  refine ⟨tSeq (tWhile (wpT (one X) c) (wpSs X body)) (wpSs X rest), pss_cons (ps_while hp pt_w1 pss_wp) pss_wp, ?_⟩
  refine ⟨fun m σ' H' => ∃ F' fps' s', EnvOk K F' H' σ' (Gs s') fps' ∧ Slf sv σ' ∧ Le (Owns fps) F H F' H' (Owns fps') ∧ wloop test step io k m s' = wloop test step io k n s0 ∧ WAll P Q test step m s', ⟨n, F, fps, s0, h0.ok Eo, s, Le.refl, rfl, hP⟩, ?_⟩
  rintro m σ' H' ⟨F', fps', s', e', sl', l', hw, hA⟩
  cases m with
  | zero => exact hA.elim
  | succ m =>
    unfold WAll at hA
    obtain ⟨hp', ht, hf⟩ := hA
    refine hc s' hp' F' H' σ' fps' _ e' fun F1 H1 u => ?_
    cases e : test s' with
    | false =>
      have hw' : k s' = wloop test step io k n s0 := by
        rw [← hw]
        show k s' = cond (test s') _ _
        rw [e]; rfl
      refine hk s' (hf e) F1 H1 σ' fps' D (e'.up u) sl' ?_
      rw [hw']
      exact q.le (l'.trans u.le)
    | true =>
      have ht2 := ht e
      refine ⟨fun σ2 H2 => ∃ F2 fps2 s2, EnvOk K F2 H2 σ2 (Gs s2) fps2 ∧ Slf sv σ2 ∧ Le (Owns fps) F H F2 H2 (Owns fps2) ∧ wloop test step io k m s2 = wloop test step io k n s0 ∧ WAll P Q test step m s2, fun σ2 H2 w2 => ⟨m, Nat.lt_succ_self m, w2⟩, ?_⟩
      refine hb s' hp' e F1 H1 σ' fps' _ (e'.up u) sl' ?_
      have hw2 : (match step s' with
        | .nx s2 => wloop test step io k m s2
        | .ct s2 => wloop test step io k m s2
        | .bk s2 => k s2
        | .fin y => io y) = wloop test step io k n s0 := by
        rw [← hw]
        show _ = cond (test s') _ _
        rw [e]; rfl
      have lx := l'.trans (u.le (O := Owns fps'))
      revert hw2 ht2
      cases step s' with
      | nx s2 => exact fun ht2 hw2 F2 H2 σ2 fps2 e2 sl2 l2 => ⟨F2, fps2, s2, e2, sl2, lx.trans l2, hw2, ht2⟩
      | ct s2 => exact fun ht2 hw2 F2 H2 σ2 fps2 e2 sl2 l2 => ⟨F2, fps2, s2, e2, sl2, lx.trans l2, hw2, ht2⟩
      | bk s2 =>
        intro ht2 hw2 F2 H2 σ2 fps2 e2 sl2 l2
        refine hk s2 ht2 F2 H2 σ2 fps2 D e2 sl2 ?_
        rw [show k s2 = wloop test step io k n s0 from hw2]
        exact q.le (lx.trans l2)
      | fin y =>
        intro ht2 hw2
        show Fin K W sv _ F1 H1 fps' (E (io y))
        have hT := hE y
        rw [show io y = wloop test step io k n s0 from hw2] at hT ⊢
        refine Fin.term (D := D) ?_ hT (q.le lx)
        rfl
theorem run_whileQ {c : Expr} {body : List Stmt} {P : S → Prop} {Q : S → Prop} {test : S → Bool} {step : S → Step S R} {io : R → T} {k : S → T} {s0 : S} (Gs : S → Env) (E : T → Out)
    (hp : PassesOwn (model X.prog X.w) X.A X.env X.xe) (hE : ∀ y, Term (E (io y))) (h0 : Weak G (Gs s0)) (hP : WAll P Q test step wmost s0)
    (hc : ∀ s, P s → EB (one X) K (Gs s) c (test s))
    (hb : ∀ s, P s → test s = true → Run X K W sv body (Gs s) ((step s).out Gs fun y => E (io y)))
    (hk : ∀ s, Q s → Run X K W sv rest (Gs s) (E (k s))) (ho : E (wloop test step io k wmost s0) = o := by rfl) : Run X K W sv (.While c body [] pos :: rest) G o := ho ▸ run_while wmost Gs E hp hE h0 hP hc hb hk
end
end Vs

/-! Plain laws about the words that printed mirrors use. -/
namespace Vs
open PySem PySem.Spec L2
/-- a loop that goes through, by what holds at each turn -/
theorem loop_inv {A S T R : Type} {step : S → A → Step S R} {io : R → T} {k : S → T} {P : S → A → Prop} {Q : S → Prop} (Inv : Nat → S → Prop) : ∀ (xs : List A) (n : Nat) (s : S), Inv n s →
    (∀ i x s, xs[i]? = some x → Inv (n + i) s → P s x ∧ ∃ s', (step s x = .nx s' ∨ step s x = .ct s') ∧ Inv (n + i + 1) s') → (∀ s, Inv (n + xs.length) s → Q s) →
    LoopAll P Q step xs s ∧ ∃ s', loop step io k xs s = k s' ∧ Inv (n + xs.length) s'
  | [], n, s, h0, _, hq => ⟨hq s h0, s, rfl, h0⟩
  | x :: xs, n, s, h0, hs, hq => by
    obtain ⟨hp, s', hst, h1⟩ := hs 0 x s rfl h0
    have e : n + (x :: xs).length = n + 1 + xs.length := by simp only [List.length_cons]; omega
    obtain ⟨a, s2, b, c⟩ := loop_inv (step := step) (io := io) (k := k) (P := P) (Q := Q) Inv xs (n + 1) s' h1 (fun i y t hy ht => by
      have := hs (i + 1) y t hy (by rw [show n + (i + 1) = n + 1 + i by omega]; exact ht)
      rw [show n + (i + 1) + 1 = n + 1 + i + 1 by omega] at this
      exact this) (fun t ht => hq t (by rw [e]; exact ht))
    refine ⟨⟨hp, ?_⟩, s2, ?_, by rw [e]; exact c⟩
    · rcases hst with hst | hst <;> rw [hst] <;> exact a
    · unfold loop
      rcases hst with hst | hst <;> rw [hst] <;> exact b
theorem loop_go {A S T R : Type} {step : S → A → Step S R} {io : R → T} {k : S → T} {P : S → A → Prop} {Q : S → Prop} (Inv : Nat → S → Prop) {xs : List A} {s : S} (h0 : Inv 0 s)
    (hs : ∀ i x s, xs[i]? = some x → Inv i s → P s x ∧ ∃ s', (step s x = .nx s' ∨ step s x = .ct s') ∧ Inv (i + 1) s') (hq : ∀ s, Inv xs.length s → Q s) :
    LoopAll P Q step xs s ∧ ∃ s', loop step io k xs s = k s' ∧ Inv xs.length s' := by
  have := loop_inv (step := step) (io := io) (k := k) (P := P) (Q := Q) Inv xs 0 s h0 (fun i x t hx ht => by
    rw [Nat.zero_add] at ht ⊢
    exact hs i x t hx ht) (fun t ht => hq t (by rw [Nat.zero_add] at ht; exact ht))
  rw [Nat.zero_add] at this
  exact this
/-- a search: the first item that ends it -/
theorem loop_all {A T : Type} {step : Unit → A → Step Unit T} {k : Unit → T} {p : A → Bool} {y : T} (h : ∀ x, step () x = cond (p x) (.fin y) (.nx ())) : ∀ xs : List A, loop step (fun z => z) k xs () = cond (xs.any p) y (k ())
  | [] => rfl
  | x :: xs => by
    unfold loop
    rw [h x, List.any_cons]
    cases p x with
    | true => rfl
    | false => exact loop_all h xs
theorem mem_range_get {n i x : Nat} (h : (List.range n)[i]? = some x) : x = i ∧ i < n := by
  obtain ⟨h1, h2⟩ := List.getElem?_eq_some_iff.mp h
  rw [List.getElem_range] at h2
  rw [List.length_range] at h1
  exact ⟨h2.symm, h1⟩
theorem inI_nn {A : Type} {xs : List A} {i : Int} (h0 : 0 ≤ i) (h1 : i < xs.length) : inI xs i = true := by
  unfold inI ixN
  rw [if_pos h0, if_pos h1]; rfl
theorem itm_nn {A : Type} [Inhabited A] {xs : List A} {i : Int} (h0 : 0 ≤ i) (h1 : i < xs.length) : itm xs i = xs.getD i.toNat default := by
  unfold itm atI ixN
  rw [if_pos h0, if_pos h1]
  show (xs[i.toNat]?).getD default = _
  rw [List.getD_eq_getElem?_getD]
theorem atI_nn {A : Type} {xs : List A} {i : Int} (h0 : 0 ≤ i) (h1 : i < xs.length) : (atI xs i).isSome = true := by
  unfold atI ixN
  rw [if_pos h0, if_pos h1]
  show (xs[i.toNat]?).isSome = true
  rw [List.getElem?_eq_getElem (by omega)]; rfl
theorem atI_get {A : Type} {xs : List A} {i : Int} (h0 : 0 ≤ i) (h1 : i < xs.length) : atI xs i = xs[i.toNat]? := by
  unfold atI ixN
  rw [if_pos h0, if_pos h1]; rfl
theorem str_len (s : Str) : s.length = s.cps.toList.length := by simp [Str.length]
theorem len_sgn (s : Str) (i : Int) : (sgn s i).length = 1 := rfl
theorem len_cut_le (z : Str) (lo hi : Option Int) : (cutS z lo hi).length ≤ z.length := len_cutS z lo hi
/-- every sign of a text stands in another -/
def allIn (s t : Str) : Bool := s.cps.toList.all fun c => decide (c ∈ t.cps.toList)
theorem allIn_app (s t u : Str) : allIn (s ++ t) u = (allIn s u && allIn t u) := by
  unfold allIn
  have e : (s ++ t).cps.toList = s.cps.toList ++ t.cps.toList := by
    show (s.cps ++ t.cps).toList = _
    exact Array.toList_append
  rw [e, List.all_append]
end Vs

/-! Plain laws about texts: words, great letters, statements. -/
namespace Vs
open PySem PySem.Spec L2 TL PySem.StrLaws
theorem at0 {x y : Str} (hy : tl y ≠ []) : Txt.startswith x y = pre (tl y) (tl x) := by
  have h := at_iff (x := x) hy 0
  rw [List.drop_zero] at h
  have e : Txt.startswith x y = true ↔ At x y x.length 0 := by
    unfold Txt.startswith At
    simp
  rw [Bool.eq_iff_iff, e, h]
theorem atEnd {x y : Str} (hy : tl y ≠ []) (hl : y.length ≤ x.length) : Txt.endswith x y = pre (tl y) ((tl x).drop (x.length - y.length)) := by
  have h := at_iff (x := x) hy (x.length - y.length)
  have e : Txt.endswith x y = true ↔ At x y x.length (x.length - y.length) := by
    unfold Txt.endswith At
    simp
    omega
  rw [Bool.eq_iff_iff, e, h]
theorem tl_cut1 (z : Str) : tl (cutS z (some 1) none) = (tl z).drop 1 := by
  have e : tl (cutS z (some 1) none) = ((tl z).drop (min 1 z.length)).take (z.length - min 1 z.length) := rfl
  rw [e, len_tl]
  by_cases h : 1 ≤ (tl z).length
  · rw [Nat.min_eq_left h, List.take_of_length_le (by rw [List.length_drop]; omega)]
  · have : tl z = [] := List.eq_nil_of_length_eq_zero (by omega)
    rw [this]; rfl
theorem tl_cutm (z : Str) : tl (cutS z none (some (-1))) = (tl z).take ((tl z).length - 1) := by
  have e : tl (cutS z none (some (-1))) = ((tl z).drop 0).take ((-1 + (z.length : Int)).toNat - 0) := rfl
  rw [e, len_tl, List.drop_zero]
  congr 1
  omega
def smT : Str := "abcdefghijklmnopqrstuvwxyz"
def grT : Str := "ABCDEFGHIJKLMNOPQRSTUVWXYZ"
/-- one to eight small letters -/
structure Wd (s : Str) : Prop where
  ne : 1 ≤ (tl s).length
  le : (tl s).length ≤ 8
  sm : ∀ c ∈ tl s, c ∈ tl smT
/-- one great letter -/
def Lt (s : Str) : Prop := ∃ c, c ∈ tl grT ∧ s = ⟨#[c]⟩
theorem small_lo : ∀ c ∈ tl smT, 97 ≤ c ∧ c ≤ 122 := by decide +kernel
theorem great_lo : ∀ c ∈ tl grT, 65 ≤ c ∧ c ≤ 90 := by decide +kernel
theorem great_letter : ∀ c ∈ tl grT, inS ⟨#[c]⟩ grT = true := by decide +kernel
theorem small_not : ∀ c ∈ tl smT, c ∉ tl grT := by decide +kernel
/-- a place: a thing or a letter -/
def Pl (s : Str) : Prop := Wd s ∨ Lt s
theorem Pl.len {s : Str} (h : Pl s) : 1 ≤ (tl s).length ∧ (tl s).length ≤ 8 := by
  rcases h with h | ⟨c, _, rfl⟩
  · exact ⟨h.ne, h.le⟩
  · exact ⟨Nat.le_refl 1, by show 1 ≤ 8; omega⟩
theorem Pl.hi {s : Str} (h : Pl s) : ∀ c ∈ tl s, 65 ≤ c := by
  rcases h with h | ⟨c, hc, rfl⟩
  · intro c hc
    have := small_lo c (h.sm c hc)
    omega
  · intro d hd
    have e : d = c := by
      have : tl (⟨#[c]⟩ : Str) = [c] := rfl
      rw [this] at hd
      simpa using hd
    subst e
    have := great_lo d hc
    omega
theorem Wd.hi {s : Str} (h : Wd s) : ∀ c ∈ tl s, 65 ≤ c := Pl.hi (.inl h)
theorem allIn_sm {s : Str} (h : Wd s) : allIn s smT = true := List.all_eq_true.mpr fun c hc => decide_eq_true (h.sm c hc)
theorem wd_of {s : Str} (h1 : 1 ≤ s.length) (h2 : s.length ≤ 8) (h3 : allIn s smT = true) : Wd s :=
  ⟨by rw [← len_tl]; exact h1, by rw [← len_tl]; exact h2, fun c hc => of_decide_eq_true (List.all_eq_true.mp h3 c hc)⟩
theorem sgn_mem {z : Str} {i : Int} (h0 : 0 ≤ i) (h1 : i < z.length) : ∃ c, c ∈ tl z ∧ sgn z i = ⟨#[c]⟩ := by
  rw [len_tl] at h1
  refine ⟨(tl z)[i.toNat]'(by omega), List.getElem_mem _, ?_⟩
  unfold sgn
  rw [atI_get h0 h1]
  rw [List.getElem?_eq_getElem (by omega)]
  rfl
theorem tl_nil : tl (Str.ofString "") = [] := by decide +kernel
theorem tl_minus : tl (Str.ofString "-") = [45] := by decide +kernel
theorem tl_open : tl (Str.ofString "(") = [40] := by decide +kernel
theorem tl_close : tl (Str.ofString ")") = [41] := by decide +kernel
theorem tl_comma : tl (Str.ofString ",") = [44] := by decide +kernel
theorem app_nil (s : Str) : s ++ Str.ofString "" = s := ext_tl (by rw [tl_append, tl_nil, List.append_nil])
theorem nil_app (s : Str) : Str.ofString "" ++ s = s := ext_tl (by rw [tl_append, tl_nil, List.nil_append])
theorem app_asc (s t u : Str) : s ++ t ++ u = s ++ (t ++ u) := ext_tl (by simp only [tl_append, List.append_assoc])
/-- what stands in brackets, with its end -/
def inside (ps : List Str) : Str := Txt.join (Str.ofString ",") ps ++ Str.ofString ")"
theorem cut_inside (ps : List Str) : cutS (inside ps) none (some (-1)) = Txt.join (Str.ofString ",") ps := ext_tl (by
  rw [tl_cutm]
  unfold inside
  rw [tl_append, tl_close]
  simp)
theorem ends_inside (ps : List Str) : Txt.endswith (inside ps) (Str.ofString ")") = true := by
  have hl : (Str.ofString ")").length = 1 := by rw [len_tl, tl_close]; rfl
  have hn : (inside ps).length = (tl (Txt.join (Str.ofString ",") ps)).length + 1 := by
    rw [len_tl]; unfold inside; rw [tl_append, tl_close]; simp
  rw [atEnd (by rw [tl_close]; simp) (by rw [hl, hn]; omega), hl, hn, tl_close]
  unfold inside
  rw [tl_append, tl_close]
  simp [pre]
theorem split_places {ps : List Str} (hne : ps ≠ []) (h : ∀ p ∈ ps, Pl p) : Txt.split (Txt.join (Str.ofString ",") ps) (Str.ofString ",") = ps :=
  split_join tl_comma (by decide +kernel) hne fun p hp hm => by
    have := Pl.hi (h p hp) _ hm
    omega
theorem inside_ne (ps : List Str) : (inside ps == Str.ofString "") = false := by
  cases e : inside ps == Str.ofString "" with
  | false => rfl
  | true =>
    have e2 := congrArg (fun s => (tl s).length) (LawfulBEq.eq_of_beq e)
    rw [tl_nil] at e2
    unfold inside at e2
    rw [tl_append, tl_close] at e2
    simp at e2
/-- a statement without its side -/
def bare (name : Str) (ps : List Str) : Str := match ps with
  | [] => name
  | p :: r => name ++ Str.ofString "(" ++ inside (p :: r)
/-- a side -/
def Sd (s : Str) : Prop := s = Str.ofString "" ∨ s = Str.ofString "-"
structure St (p : Str × Str × List Str) : Prop where
  sd : Sd p.1
  wd : Wd p.2.1
  two : p.2.2.length ≤ 2
  pl : ∀ x ∈ p.2.2, Pl x
def stT (p : Str × Str × List Str) : Str := p.1 ++ bare p.2.1 p.2.2
def openT : List Str → Str
  | [] => Str.ofString ""
  | _ :: _ => Str.ofString "("
def tailT : List Str → Str
  | [] => Str.ofString ""
  | p :: r => inside (p :: r)
theorem open_tail (ps : List Str) : (openT ps == Str.ofString "") = (tailT ps == Str.ofString "") := by
  cases ps with
  | nil => rfl
  | cons p r =>
    show (Str.ofString "(" == Str.ofString "") = (inside (p :: r) == Str.ofString "")
    rw [inside_ne]
    decide +kernel
theorem bare_part {name : Str} {ps : List Str} (hw : Wd name) : Txt.partition (bare name ps) (Str.ofString "(") = (name, openT ps, tailT ps) := by
  have hf : (40 : Nat) ∉ tl name := fun hm => by have := hw.hi _ hm; omega
  cases ps with
  | nil =>
    show Txt.partition name _ = _
    rw [partition_none tl_open hf]
    have e : Str.empty = Str.ofString "" := ext_tl (by rw [tl_nil]; rfl)
    rw [e]
    rfl
  | cons p r => exact partition_app tl_open hf
theorem bare_head {name : Str} {ps : List Str} (hw : Wd name) : ∃ c l, tl (bare name ps) = c :: l ∧ 65 ≤ c := by
  have h1 := hw.ne
  cases e : tl name with
  | nil => rw [e] at h1; cases h1
  | cons c l =>
    have hc := hw.hi c (by rw [e]; simp)
    cases ps with
    | nil => exact ⟨c, l, e, hc⟩
    | cons p r => exact ⟨c, l ++ tl (Str.ofString "(") ++ tl (inside (p :: r)), by
        show tl (name ++ _ ++ _) = _
        rw [tl_append, tl_append, e]; simp, hc⟩
theorem bare_no {name : Str} {ps : List Str} (hw : Wd name) : Txt.startswith (bare name ps) (Str.ofString "-") = false := by
  obtain ⟨c, l, e, hc⟩ := bare_head (ps := ps) hw
  rw [at0 (by rw [tl_minus]; simp), tl_minus, e]
  exact pre_of_head _ _ (by omega)
theorem minus_yes (s : Str) : Txt.startswith (Str.ofString "-" ++ s) (Str.ofString "-") = true := by
  rw [at0 (by rw [tl_minus]; simp), tl_append]
  exact pre_self _ _
theorem minus_cut (s : Str) : cutS (Str.ofString "-" ++ s) (some 1) none = s := ext_tl (by
  rw [tl_cut1, tl_append, tl_minus]; rfl)
theorem stT_none (n : Str) (ps : List Str) : stT (Str.ofString "", n, ps) = bare n ps := nil_app _
theorem stT_minus (n : Str) (ps : List Str) : stT (Str.ofString "-", n, ps) = Str.ofString "-" ++ bare n ps := rfl
theorem len_cutL {A : Type} (xs : List A) (lo hi : Option Int) : (cut xs lo hi).length ≤ xs.length := by
  unfold cut
  rw [List.length_take, List.length_drop]
  omega
theorem join_len : ∀ {ps : List Str}, ps.length ≤ 2 → (∀ x ∈ ps, Pl x) → (Txt.join (Str.ofString ",") ps).length ≤ 17
  | [], _, _ => by rw [join_eq, len_tl, tl_join]; show 0 ≤ 17; omega
  | [p], _, h => by
    have := Pl.len (h p (by simp))
    rw [join_eq, len_tl, tl_join]
    show (tl p).length ≤ 17
    omega
  | [p, q], _, h => by
    have h1 := Pl.len (h p (by simp))
    have h2 := Pl.len (h q (by simp))
    rw [join_eq, len_tl, tl_join, tl_comma]
    show (tl p ++ ([44] ++ tl q)).length ≤ 17
    simp only [List.length_append, List.length_cons, List.length_nil]
    omega
  | p :: q :: r :: s, h, _ => by simp at h
theorem join1 (p : Str) : Txt.join (Str.ofString ",") [p] = p := by rw [join_eq]; exact ext_tl (by rw [tl_join]; rfl)
theorem join2 (p q : Str) : Txt.join (Str.ofString ",") [p, q] = p ++ Str.ofString "," ++ q := by
  rw [join_eq]; exact ext_tl (by rw [tl_join, tl_append, tl_append, List.append_assoc]; rfl)
theorem sd_len {s : Str} (h : Sd s) : s.length ≤ 1 := by
  rcases h with rfl | rfl
  · rw [len_tl, tl_nil]; show 0 ≤ 1; omega
  · rw [len_tl, tl_minus]; show 1 ≤ 1; omega
theorem ch_len (s : String) {n : Nat} (h : (s.toList).length = n) : (Str.ofString s).length = n := by
  rw [len_tl, tl_ofString, List.length_map, h]
theorem name_len {s : Str} (h : Wd s) : s.length ≤ 8 := by rw [len_tl]; exact h.le
theorem bare_len {name : Str} {ps : List Str} (hw : Wd name) (h2 : ps.length ≤ 2) (h : ∀ x ∈ ps, Pl x) : (bare name ps).length ≤ 27 := by
  have hn := name_len hw
  have hj := join_len h2 h
  cases ps with
  | nil => show name.length ≤ 27; omega
  | cons p r =>
    show (name ++ _ ++ inside (p :: r)).length ≤ 27
    unfold inside
    rw [len_app, len_app, len_app, ch_len "(" (n := 1) rfl, ch_len ")" (n := 1) rfl]
    omega
theorem inS_head {s t : Str} {c : Nat} {l : List Nat} (e : tl s = c :: l) (h : c ∉ tl t) : inS s t = false := by
  cases q : inS s t with
  | false => rfl
  | true =>
    obtain ⟨i, hi⟩ := (StrLaws.found_iff t s).mp q
    have h2 := (at_iff (x := t) (y := s) (by rw [e]; simp) i).mp hi
    rw [e] at h2
    have h3 : ((tl t).drop i).take (c :: l).length = c :: l := eq_of_beq h2
    have h4 : c ∈ ((tl t).drop i).take (c :: l).length := by rw [h3]; simp
    exact absurd (List.mem_of_mem_drop (List.mem_of_mem_take h4)) h
theorem inS_one (c : Nat) (t : Str) : inS ⟨#[c]⟩ t = decide (c ∈ tl t) := StrLaws.found_one t c
theorem wd_not {s t : Str} (h : Wd s) (ht : ∀ c ∈ tl t, c ≤ 90) : inS s t = false := by
  have h1 := h.ne
  cases e : tl s with
  | nil => rw [e] at h1; cases h1
  | cons c l =>
    refine inS_head e fun hc => ?_
    have a := ht c hc
    have b := (small_lo c (h.sm c (by rw [e]; simp))).1
    omega
end Vs

/-! Dicts: seen, own, copied, told alike. -/
namespace Vs
open PySem PySem.Spec L2
/-- the pairs of a dict -/
def encK {κ A : Type} (g : κ → Key) (f : A → Dt) (kvs : List (κ × A)) : List (Key × Dt) := kvs.map fun z => (g z.1, f z.2)
def gets {κ A : Type} [DecidableEq κ] : List (κ × A) → κ → Option A
  | [], _ => none
  | p :: r, k => if p.1 = k then some p.2 else gets r k
def puts {κ A : Type} [DecidableEq κ] : List (κ × A) → κ → A → List (κ × A)
  | [], k, a => [(k, a)]
  | p :: r, k, a => if p.1 = k then (p.1, a) :: r else p :: puts r k a
theorem puts_len {κ A : Type} [DecidableEq κ] (k : κ) (a : A) : ∀ kvs : List (κ × A), (puts kvs k a).length ≤ kvs.length + 1
  | [] => Nat.le_refl 1
  | p :: r => by
    unfold puts
    split
    · simp
    · have := puts_len k a r
      simp only [List.length_cons]; omega
theorem mem_puts {κ A : Type} [DecidableEq κ] {k : κ} {a : A} : ∀ {kvs : List (κ × A)} {z : κ × A}, z ∈ puts kvs k a → z = (k, a) ∨ z ∈ kvs
  | [], z, h => .inl (by simpa [puts] using h)
  | p :: r, z, h => by
    unfold puts at h
    split at h
    · rename_i e
      rcases List.mem_cons.mp h with h | h
      · exact .inl (by rw [h, e])
      · exact .inr (List.mem_cons_of_mem _ h)
    · rcases List.mem_cons.mp h with h | h
      · exact .inr (by rw [h]; exact List.mem_cons_self)
      · rcases mem_puts h with h | h
        · exact .inl h
        · exact .inr (List.mem_cons_of_mem _ h)
theorem puts_nodup {κ A : Type} [DecidableEq κ] {k : κ} {a : A} : ∀ {kvs : List (κ × A)}, (kvs.map (·.1)).Nodup → ((puts kvs k a).map (·.1)).Nodup
  | [], _ => by simp [puts]
  | p :: r, h => by
    rw [List.map_cons, List.nodup_cons] at h
    unfold puts
    split
    · rw [List.map_cons, List.nodup_cons]; exact h
    · rename_i e
      rw [List.map_cons, List.nodup_cons]
      refine ⟨fun hm => ?_, puts_nodup h.2⟩
      obtain ⟨z, hz, hz'⟩ := List.mem_map.mp hm
      rcases mem_puts hz with rfl | hz
      · exact e hz'.symm
      · exact h.1 (List.mem_map.mpr ⟨z, hz, hz'⟩)
section
variable {κ A : Type} [DecidableEq κ] {g : κ → Key} (hg : ∀ a b, g a = g b → a = b) {f : A → Dt} {K : PySem.W.Frag} {F : Hp}
include hg
theorem repK_get (k : κ) : ∀ {kvs : List (κ × A)} {vs : List (Key × V)}, RepK K F vs (encK g f kvs) → (gets kvs k = none ∧ valV vs (g k) = none) ∨ ∃ a v, gets kvs k = some a ∧ valV vs (g k) = some v ∧ Rep K F v (f a)
  | [], _, .nil => .inl ⟨rfl, rfl⟩
  | (j, a) :: r, _, .cons (v := v) (vs := vs) o h t => by
    by_cases e : j = k
    · subst e
      exact .inr ⟨a, v, by simp [gets], valV_pos rfl, h⟩
    · have e' : ¬ (g j, v).1 = g k := fun z => e (hg _ _ z)
      rw [valV_neg e']
      have e2 : gets ((j, a) :: r) k = gets r k := by simp [gets, e]
      rw [e2]
      exact repK_get k t
theorem repK_put (k : κ) {v : V} {a : A} (ho : kOk (g k) = true) (hv : Rep K F v (f a)) : ∀ {kvs : List (κ × A)} {vs : List (Key × V)}, (kvs.map (·.1)).Nodup → RepK K F vs (encK g f kvs) → RepK K F (putK vs (g k) v) (encK g f (puts kvs k a))
  | [], _, _, .nil => .cons ho hv .nil
  | (j, b) :: r, _, nd, .cons (v := w) (vs := vs) o h t => by
    rw [List.map_cons, List.nodup_cons] at nd
    by_cases e : j = k
    · subst e
      have e2 : puts ((j, b) :: r) j a = (j, a) :: r := by simp [puts]
      rw [e2]
      have ht : ∀ {kvs : List (κ × A)} {vs : List (Key × V)}, j ∉ kvs.map (·.1) → RepK K F vs (encK g f kvs) → (vs.map fun kv => if kv.1 = g j then (kv.1, v) else kv) = vs := by
        intro kvs
        induction kvs with
        | nil => intro vs _ q; cases q; rfl
        | cons z s ih =>
          intro vs hn q
          cases q with
          | cons h0 h1 h2 =>
            rw [List.map_cons, List.mem_cons, not_or] at hn
            rw [List.map_cons, ih hn.2 h2, if_neg (fun x => hn.1 (hg _ _ x).symm)]
      unfold putK
      rw [if_pos (by simp), List.map_cons, if_pos rfl, ht nd.1 t]
      exact .cons ho hv t
    · have e' : ¬ g j = g k := fun z => e (hg _ _ z)
      have e2 : puts ((j, b) :: r) k a = (j, b) :: puts r k a := by simp [puts, e]
      have e3 : putK ((g j, w) :: vs) (g k) v = (g j, w) :: putK vs (g k) v := by
        unfold putK
        rw [List.any_cons]
        simp only [e', decide_false, Bool.false_or, List.map_cons, if_false]
        split <;> rfl
      rw [e2, e3]
      exact .cons o h (repK_put k ho hv nd.2 t)
end
theorem repK_len {κ A : Type} {g : κ → Key} {f : A → Dt} {K : PySem.W.Frag} {F : Hp} : ∀ {kvs : List (κ × A)} {vs : List (Key × V)}, RepK K F vs (encK g f kvs) → vs.length = kvs.length
  | [], _, .nil => rfl
  | _ :: r, _, .cons _ _ t => by rw [List.length_cons, List.length_cons, repK_len t]
theorem repK_keys {κ A : Type} {g : κ → Key} {f : A → Dt} {K : PySem.W.Frag} {F : Hp} : ∀ {kvs : List (κ × A)} {vs : List (Key × V)}, RepK K F vs (encK g f kvs) → vs.map (·.1) = kvs.map fun z => g z.1
  | [], _, .nil => rfl
  | _ :: r, _, .cons _ _ t => by rw [List.map_cons, List.map_cons, repK_keys t]
/-- data whose value is one and flat -/
structure FlatD {A : Type} (f : A → Dt) : Prop where
  fl : ∀ K F v a, Rep K F v (f a) → flatB v = true
  un : ∀ K F v w a, Rep K F v (f a) → Rep K F w (f a) → v = w
theorem flat_str : FlatD Dt.str := ⟨fun _ _ _ _ h => by cases h; rfl, fun _ _ _ _ _ h h' => by cases h; cases h'; rfl⟩
theorem flat_int : FlatD Dt.int := ⟨fun _ _ _ _ h => by cases h; rfl, fun _ _ _ _ _ h h' => by cases h; cases h'; rfl⟩
theorem repK_un {κ A : Type} {g : κ → Key} {f : A → Dt} (d : FlatD f) {K : PySem.W.Frag} {F : Hp} : ∀ {kvs : List (κ × A)} {vs ws : List (Key × V)}, RepK K F vs (encK g f kvs) → RepK K F ws (encK g f kvs) → vs = ws ∧ ∀ p ∈ vs, flatB p.2 = true
  | [], _, _, .nil, .nil => ⟨rfl, by simp⟩
  | _ :: r, _, _, .cons _ h t, .cons _ h' t' => by
    obtain ⟨e, q⟩ := repK_un d t t'
    obtain rfl := d.un _ _ _ _ _ h h'
    refine ⟨by rw [e], fun p hp => ?_⟩
    rcases List.mem_cons.mp hp with rfl | hp
    · exact d.fl _ _ _ _ h
    · exact q p hp
theorem nodup_un {κ A : Type} {g : κ → Key} {f : A → Dt} {K : PySem.W.Frag} {F : Hp} {kvs : List (κ × A)} {vs : List (Key × V)} (r : RepK K F vs (encK g f kvs)) (h : (vs.map (·.1)).Nodup) : (kvs.map (·.1)).Nodup := by
  rw [repK_keys r] at h
  have e : (kvs.map fun z => g z.1) = (kvs.map (·.1)).map g := by rw [List.map_map]; rfl
  rw [e] at h
  unfold List.Nodup at h ⊢
  rw [List.pairwise_map] at h
  exact h.imp fun hab z => hab (by rw [z])
theorem nodup_g {κ A : Type} {g : κ → Key} (hgi : ∀ a b, g a = g b → a = b) {kvs : List (κ × A)} (h : (kvs.map (·.1)).Nodup) : (kvs.map fun z => g z.1).Nodup := by
  have e : (kvs.map fun z => g z.1) = (kvs.map (·.1)).map g := by rw [List.map_map]; rfl
  rw [e]
  exact List.Pairwise.map g (fun a b (hab : a ≠ b) z => hab (hgi a b z)) h
/-- does it stand there? -/
def hasK {κ A : Type} [DecidableEq κ] (kvs : List (κ × A)) (k : κ) : Bool := (gets kvs k).isSome
abbrev keyD : Key → Dt
  | .inl i => .int i
  | .inr s => .str s
section
variable {I : Type}
/-- e gives a dict that is seen -/
def ED (X : I → Cx) (K : PySem.W.Frag) (G : Env) (e : Expr) (ds : List (Key × Dt)) : Prop :=
  ∀ F H σ fps (Q : VK), EnvOk K F H σ G fps → (∀ F' H' p vs, Up F H F' H' → Rd H' p (.dK vs) → vs.length ≤ big → RepK K F' vs ds → (vs.map (·.1)).Nodup → Q (.ref p) H') → wpE X e σ H Q
variable {X : I → Cx} {K : PySem.W.Frag} {G : Env}
theorem EX.ed {e : Expr} {ds : List (Key × Dt)} (h : EX X K G e (.dic ds)) : ED X K G e ds := fun F H σ fps Q k q =>
  h F H σ fps Q k fun F1 H1 v u r => by
    cases r with
    | dic h1 l r n => exact q F1 H1 _ _ u (u.sb.rd h1) l r n
theorem EN.ed {e : Expr} {ds : List (Key × Dt)} (h : EN X K G e (.od ds)) : ED X K G e ds := fun F H σ fps Q k q =>
  h F H σ fps Q k fun F1 H1 v fp u r n => by
    obtain ⟨p, vs, rfl, rfl, h1, l, r, nd⟩ := r.od_inv
    exact q F1 H1 _ _ u (.inl h1) l r nd
theorem EP.ed {e : Expr} {i : Nat} {π : List Nat} {ds : List (Key × Dt)} (h : EP X K G e i π) (hg : atG G i π = some (.od ds)) : ED X K G e ds := fun F H σ fps Q E q =>
  h F H σ fps _ E fun F1 H1 v u l => by
    obtain ⟨fpc, r, _⟩ := (E.up u).loc hg l
    obtain ⟨p, vs, rfl, _, h2, l, r, nd⟩ := r.od_inv
    exact q F1 H1 p vs u (.inl h2) l r nd
/-- dict(d) -/
theorem en_dict {e : Expr} {p pos : Pos} {ds : List (Key × Dt)} (h : ED X K G e ds) (hg : ∀ j, Gl (X j) "dict") (hm : ∀ j, (X j).mg "dict" = none)
    (he : ∀ j, starEach [e] (X j).env = [(false, eval e (X j).env)] := by intro _; rfl) : EN X K G (.Call (.Name "dict" p) [e] [] pos) (.od ds) := fun F H σ fps Q k q =>
  ⟨tCB (fun xs H Q => ∃ (a : Addr) (kvs : List (Key × V)), xs = [.ref a] ∧ Rd H a (.dK kvs) ∧ ∀ p, H p = none → Q (.ref p) (upd H p (.dK kvs))) (tCons (wpE X e) tNil), fun j => pe_callTy call_dictD (hg j) (hm j) (by decide +kernel) (pa_cons (pe_wp j) pa_nil (he j)) (by decide) (by decide) (he j) rfl, h F H σ fps _ k fun F1 H1 p vs u r l rl nd => by
    refine ⟨p, vs, rfl, r, fun D hD => ?_⟩
    have n0 : H D = none := u.hp.free hD
    refine q F1 (upd H1 D (.dK vs)) (.ref D) [D] (u.trans (Up.layH u.sb hD)) (.od upd_same l rl nd) fun a ha => ?_
    obtain rfl : a = D := by simpa using ha
    exact ⟨n0, u.sb.none hD, by rw [upd_same]; simp⟩⟩
theorem Up.rd {F H F' H' : Hp} (u : Up F H F' H') {a : Addr} {o : HO} (h : Rd H a o) (n : nT o = true := by rfl) : Rd H' a o := by
  rcases h with h | ⟨b, h⟩
  · exact .inl (u.hp.h h n)
  · exact .inr ⟨b, u.hp.h h⟩
section
variable {κ A : Type} [DecidableEq κ] {g : κ → Key} {kvs : List (κ × A)} {k : κ} (f : A → Dt) (hgi : ∀ a b, g a = g b → a = b) (hk : ∀ F v, Rep K F v (match g k with | .inl i => .int i | .inr s => .str s) → v = kV (g k))
include hgi hk
/-- d.get(k, e) -/
theorem x_get2 {o e f' : Expr} {apos pos : Pos} {a : A} (hu : ∀ j, (X j).A.units + 64 < cLine) (ho : ED X K G o (encK g f kvs)) (he : EX X K G e (match g k with | .inl i => .int i | .inr s => .str s)) (hf : EX X K G f' (f a))
    (hM : ∀ j, M2 (X j) o "get" apos e f' pos := by intro _; exact ⟨rfl, rfl, rfl, rfl⟩) : EX X K G (.Call (.Attribute o "get" apos) [e, f'] [] pos) (f ((gets kvs k).getD a)) := fun F H σ fps Q E q =>
  ⟨tDGet2 (wpE X o) (wpE X e) (wpE X f'), fun j => pe_dget2 (Nat.lt_of_le_of_lt (by omega) (hu j)) (pe_wp j) (pe_wp j) (pe_wp j) (hM j), ho F H σ fps _ E fun F1 H1 p vs u r l rl _ => by
    refine ⟨p, rfl, .inl ⟨vs, r⟩, he F1 H1 σ fps _ (E.up u) fun F2 H2 y u2 r2 => hf F2 H2 σ fps _ ((E.up u).up u2) fun F3 H3 z u3 r3 => ?_⟩
    have ey := hk F2 y r2
    subst ey
    refine ⟨_, .inl ⟨vs, g k, u3.rd (u2.rd r), rfl, rfl⟩, ?_⟩
    have rl3 := (rl.mono u2.fr).mono u3.fr
    rcases repK_get hgi k rl3 with ⟨e1, e2⟩ | ⟨b, w, e1, e2, e3⟩
    · rw [e1] at q; rw [e2]; exact q F3 H3 z ((u.trans u2).trans u3) r3
    · rw [e1] at q; rw [e2]; exact q F3 H3 w ((u.trans u2).trans u3) e3⟩
/-- d.get(k) -/
theorem x_get1 {o e : Expr} {apos pos : Pos} (hu : ∀ j, (X j).A.units + 64 < cLine) (ho : ED X K G o (encK g f kvs)) (he : EX X K G e (match g k with | .inl i => .int i | .inr s => .str s))
    (hM : ∀ j, M1 (X j) o "get" apos e pos := by intro _; exact ⟨rfl, rfl, rfl, rfl⟩) : EX X K G (.Call (.Attribute o "get" apos) [e] [] pos) (encO f (gets kvs k)) := fun F H σ fps Q E q =>
  ⟨tDGet1 (wpE X o) (wpE X e), fun j => pe_dget1 (Nat.lt_of_le_of_lt (by omega) (hu j)) (pe_wp j) (pe_wp j) (hM j), ho F H σ fps _ E fun F1 H1 p vs u r l rl _ => by
    refine ⟨p, rfl, .inl ⟨vs, r⟩, he F1 H1 σ fps _ (E.up u) fun F2 H2 y u2 r2 => ?_⟩
    have ey := hk F2 y r2
    subst ey
    refine ⟨_, .inl ⟨vs, g k, u2.rd r, rfl, rfl⟩, ?_⟩
    rcases repK_get hgi k (rl.mono u2.fr) with ⟨e1, e2⟩ | ⟨b, w, e1, e2, e3⟩
    · rw [e1] at q; rw [e2]; exact q F2 H2 .non (u.trans u2) .non
    · rw [e1] at q; rw [e2]; exact q F2 H2 w (u.trans u2) e3⟩
/-- d[k] -/
theorem x_dsub [Inhabited A] {o e : Expr} {pos : Pos} (hu : ∀ j, (X j).A.units + 64 < cLine) (ho : ED X K G o (encK g f kvs)) (he : EX X K G e (match g k with | .inl i => .int i | .inr s => .str s)) (hh : hasK kvs k = true) (hs : NoSl e := by exact fun _ _ => rfl) : EX X K G (.Subscript o e pos) (f ((gets kvs k).getD default)) := fun F H σ fps Q E q =>
  ⟨tDGet (wpE X o) (wpE X e), fun j => pe_dget (Nat.lt_of_le_of_lt (by omega) (hu j)) (pe_wp j) (pe_wp j) hs, ho F H σ fps _ E fun F1 H1 p vs u r l rl _ => by
    refine he F1 H1 σ fps _ (E.up u) fun F2 H2 y u2 r2 => ?_
    have ey := hk F2 y r2
    subst ey
    rcases repK_get hgi k (rl.mono u2.fr) with ⟨e1, e2⟩ | ⟨b, w, e1, e2, e3⟩
    · unfold hasK at hh; rw [e1] at hh; cases hh
    · refine ⟨p, w, rfl, .inl ⟨vs, g k, u2.rd r, rfl, e2.symm⟩, ?_⟩
      rw [e1] at q
      exact q F2 H2 w (u.trans u2) e3⟩
theorem dget_has {F H : Hp} {p : Addr} {vs : List (Key × V)} (r : Rd H p (.dK vs)) (rl : RepK K F vs (encK g f kvs)) : ∃ ov, DGet H p (kV (g k)) ov ∧ ov.isSome = hasK kvs k := by
  refine ⟨_, .inl ⟨vs, g k, r, rfl, rfl⟩, ?_⟩
  unfold hasK
  rcases repK_get hgi k rl with ⟨e1, e2⟩ | ⟨b, w, e1, e2, e3⟩
  · rw [e1, e2]; rfl
  · rw [e1, e2]; rfl
/-- k in d, k not in d -/
theorem xx_ind {o e : Expr} {pos : Pos} (hu : ∀ j, (X j).A.units + 64 < cLine) (he : EX X K G e (match g k with | .inl i => .int i | .inr s => .str s)) (ho : ED X K G o (encK g f kvs)) (hm : behindInMarks .In o = false := by rfl) : EX X K G (.Compare e [.In] [o] pos) (.bl (hasK kvs k)) := fun F H σ fps Q E q =>
  ⟨tDIn (wpE X e) (wpE X o), fun j => pe_cmp (pc_din (Nat.lt_of_le_of_lt (by omega) (hu j)) (pe_wp j) (pe_wp j)) hm, he F H σ fps _ E fun F1 H1 y u1 r1 => ho F1 H1 σ fps _ (E.up u1) fun F2 H2 p vs u2 r l rl _ => by
    have ey := hk F1 y r1
    subst ey
    obtain ⟨ov, g1, g2⟩ := dget_has f hgi hk (k := k) r rl
    exact ⟨p, ov, rfl, g1, by rw [g2]; exact q F2 H2 _ (u1.trans u2) (.bl _)⟩⟩
theorem xx_nid {o e : Expr} {pos : Pos} (hu : ∀ j, (X j).A.units + 64 < cLine) (he : EX X K G e (match g k with | .inl i => .int i | .inr s => .str s)) (ho : ED X K G o (encK g f kvs)) (hm : behindInMarks .NotIn o = false := by rfl) : EX X K G (.Compare e [.NotIn] [o] pos) (.bl (!hasK kvs k)) := fun F H σ fps Q E q =>
  ⟨tDNotIn (wpE X e) (wpE X o), fun j => pe_cmp (pc_dnotin (Nat.lt_of_le_of_lt (by omega) (hu j)) (pe_wp j) (pe_wp j)) hm, he F H σ fps _ E fun F1 H1 y u1 r1 => ho F1 H1 σ fps _ (E.up u1) fun F2 H2 p vs u2 r l rl _ => by
    have ey := hk F1 y r1
    subst ey
    obtain ⟨ov, g1, g2⟩ := dget_has f hgi hk (k := k) r rl
    exact ⟨p, ov, rfl, g1, by rw [g2]; exact q F2 H2 _ (u1.trans u2) (.bl _)⟩⟩
theorem xb_ind {o e : Expr} {pos : Pos} (hu : ∀ j, (X j).A.units + 64 < cLine) (he : EX X K G e (match g k with | .inl i => .int i | .inr s => .str s)) (ho : ED X K G o (encK g f kvs)) (hm : behindInMarks .In o = false := by rfl) : EB X K G (.Compare e [.In] [o] pos) (hasK kvs k) := fun F H σ fps Q E q =>
  ⟨tTest (tDIn (wpE X e) (wpE X o)), fun j => pt_cmp (pc_din (Nat.lt_of_le_of_lt (by omega) (hu j)) (pe_wp j) (pe_wp j)) hm, he F H σ fps _ E fun F1 H1 y u1 r1 => ho F1 H1 σ fps _ (E.up u1) fun F2 H2 p vs u2 r l rl _ => by
    have ey := hk F1 y r1
    subst ey
    obtain ⟨ov, g1, g2⟩ := dget_has f hgi hk (k := k) r rl
    exact ⟨p, ov, rfl, g1, _, rfl, by rw [g2]; exact q F2 H2 (u1.trans u2)⟩⟩
theorem xb_nid {o e : Expr} {pos : Pos} (hu : ∀ j, (X j).A.units + 64 < cLine) (he : EX X K G e (match g k with | .inl i => .int i | .inr s => .str s)) (ho : ED X K G o (encK g f kvs)) (hm : behindInMarks .NotIn o = false := by rfl) : EB X K G (.Compare e [.NotIn] [o] pos) (!hasK kvs k) := fun F H σ fps Q E q =>
  ⟨tTest (tDNotIn (wpE X e) (wpE X o)), fun j => pt_cmp (pc_dnotin (Nat.lt_of_le_of_lt (by omega) (hu j)) (pe_wp j) (pe_wp j)) hm, he F H σ fps _ E fun F1 H1 y u1 r1 => ho F1 H1 σ fps _ (E.up u1) fun F2 H2 p vs u2 r l rl _ => by
    have ey := hk F1 y r1
    subst ey
    obtain ⟨ov, g1, g2⟩ := dget_has f hgi hk (k := k) r rl
    exact ⟨p, ov, rfl, g1, _, rfl, by rw [g2]; exact q F2 H2 (u1.trans u2)⟩⟩
end
theorem keyS (s : Str) : ∀ F v, Rep K F v (.str s) → v = kV (.inr s) := fun F v h => by cases h; rfl
theorem keyI (i : Int) : ∀ F v, Rep K F v (.int i) → v = kV (.inl i) := fun F v h => by cases h; rfl
theorem kOk_rep {K : PySem.W.Frag} {F : Hp} {v : V} {k : Key} (r : Rep K F v (match k with | .inl i => .int i | .inr s => .str s)) : kOk k = true := by
  cases k with
  | inl i => rfl
  | inr s => cases r; assumption
/-- two dicts told alike -/
theorem op_eqDR {X : Cx} (hu : X.A.units < cLine) : OpR X (compareOp .Eq) (fun x y H Q => ∃ a b kvs, x = .ref a ∧ y = .ref b ∧ Rd H a (.dK kvs) ∧ Rd H b (.dK kvs) ∧ (kvs.map (·.1)).Nodup ∧ (∀ p ∈ kvs, flatB p.2 = true) ∧ Q (.bl true) H) := by
  intro pins s σ H x y v u Q I rx ry h
  obtain ⟨a, b, kvs, rfl, rfl, ea, eb, nd, fl, q⟩ := h
  obtain rfl : v = Value.ref a := rx
  obtain rfl : u = Value.ref b := ry
  obtain ⟨_, ya, va, ra, da⟩ := dk_rd I.hok ea
  obtain ⟨_, yb, vb, rb, db⟩ := dk_rd I.hok eb
  have hl : va.length = vb.length := ra.length.symm.trans rb.length
  exact PySem.W.keq_eq (knd := mixKind X.prog X.w) (r := true) ya yb da db hu (fun _ => hits_all rb ra fun p hp => ⟨val_nodup nd p hp, fl p hp⟩) (fin_bl I q (by simp [hl]))
def dSame {κ A : Type} (xs ys : List (κ × A)) : Prop := xs = ys
theorem x_eqDD {κ A : Type} {g : κ → Key} {f : A → Dt} {a b : Expr} {pos : Pos} {xs ys : List (κ × A)} (hgi : ∀ a b, g a = g b → a = b) (d : FlatD f) (hu : ∀ j, (X j).A.units + 64 < cLine) (ha : ED X K G a (encK g f xs)) (hb : ED X K G b (encK g f ys)) (hs : dSame xs ys) (hm : behindInMarks .Eq b = false := by rfl) : EX X K G (.Compare a [.Eq] [b] pos) (.bl true) := fun F H σ fps Q E q =>
  ⟨tOp _ (wpE X a) (wpE X b), fun j => pe_cmpR (op_eqDR (Nat.lt_of_le_of_lt (by omega) (hu j))) (pe_wp j) (pe_wp j) hm, ha F H σ fps _ E fun F1 H1 p vs u r l rl n1 => hb F1 H1 σ fps _ (E.up u) fun F2 H2 p2 ws u2 r2 l2 rl2 n2 => by
    obtain rfl := hs
    obtain ⟨e, fl⟩ := repK_un d (rl.mono u2.fr) rl2
    subst e
    refine ⟨p, p2, vs, rfl, rfl, u2.rd r, r2, n2, fl, q F2 H2 _ (u.trans u2) (.bl true)⟩⟩
theorem b_eqDD {κ A : Type} {g : κ → Key} {f : A → Dt} {a b : Expr} {pos : Pos} {xs ys : List (κ × A)} (hgi : ∀ a b, g a = g b → a = b) (d : FlatD f) (hu : ∀ j, (X j).A.units + 64 < cLine) (ha : ED X K G a (encK g f xs)) (hb : ED X K G b (encK g f ys)) (hs : dSame xs ys) (hm : behindInMarks .Eq b = false := by rfl) : EB X K G (.Compare a [.Eq] [b] pos) true := fun F H σ fps Q E q =>
  ⟨tTest (tOp _ (wpE X a) (wpE X b)), fun j => pt_cmpR (op_eqDR (Nat.lt_of_le_of_lt (by omega) (hu j))) (pe_wp j) (pe_wp j) hm, ha F H σ fps _ E fun F1 H1 p vs u r l rl n1 => hb F1 H1 σ fps _ (E.up u) fun F2 H2 p2 ws u2 r2 l2 rl2 n2 => by
    obtain rfl := hs
    obtain ⟨e, fl⟩ := repK_un d (rl.mono u2.fr) rl2
    subst e
    refine ⟨p, p2, vs, rfl, rfl, u2.rd r, r2, n2, fl, ⟨true, rfl, q F2 H2 (u.trans u2)⟩⟩⟩
end
section
variable {X : Cx} {K : PySem.W.Frag} {W : WX} {sv : Sv} {G : Env} {rest : List Stmt} {o : Out} {pos : Pos}
theorem run_asgC {B : Type} {i : Nat} {x : Str} {e : Expr} {pos' : Pos} {v : B} (enc : B → Cell) (oF : B → Out) (P : B → Prop) (h : EN (one X) K G e (enc v)) (hp : P v) (hN : X.N.Nodup) (k : ∀ y, P y → Run X K W sv rest (G.set i (some (enc y))) (oF y))
    (hi : X.N[i]? = some x := by rfl) (hx : Loc X.env.scope x := by first | exact Or.inl rfl | exact Or.inr rfl) (hl : Nat.blt i G.length = true := by rfl) (hv : memN sv.ks i = false := by rfl)
    (hs : swapsWith e (some (.Name x pos')) pos.line X.env = pure false := by rfl) (hf : X.fn x = true ∨ X.env.scope.names.lookup x = some .local := by first | exact .inl rfl | exact .inr rfl | assumption) (ho : oF v = o := by rfl) :
    Run X K W sv (.Assign [.Name x pos'] e pos :: rest) G o := ho ▸ run_asgN h hN hi hx (Nat.blt_eq.mp hl) hv (k v hp) hs hf
/-- d[k] = e, d an own dict -/
theorem run_setD {κ A : Type} [DecidableEq κ] {g : κ → Key} {i : Nat} {π : List Nat} {t e ie : Expr} {sp : Pos} {kvs : List (κ × A)} {k : κ} {a : A} {G' : Env} (f : A → Dt) (hgi : ∀ a b, g a = g b → a = b) (hk : ∀ F v, Rep K F v (match g k with | .inl i => .int i | .inr s => .str s) → v = kV (g k)) (hu : X.A.units + 64 < cLine) (ht : EP (one X) K G t i π) (hg : atG G i π = some (.od (encK g f kvs))) (h : EX (one X) K G e (f a)) (hi : EX (one X) K G ie (match g k with | .inl i => .int i | .inr s => .str s)) (hn : kvs.length + 1 ≤ big)
    (hG : updG G i π (.od (encK g f (puts kvs k a))) = G') (kk : Run X K W sv rest G' o)
    (hs : swapsWith e (some (.Subscript t ie sp)) pos.line X.env = pure false := by rfl) :
    Run X K W sv (.Assign [.Subscript t ie sp] e pos :: rest) G o := fun F H σ fps D Eo s q => by
  subst hG
  refine ⟨tSeq (sDPut (wpE (one X) t) (wpE (one X) ie) (wpE (one X) e)) (wpSs X rest), pss_cons (ps_dput (Nat.lt_of_le_of_lt (by omega) hu) pe_w1 pe_w1 pe_w1 hs) pss_wp, h F H σ fps _ Eo fun F1 H1 w u r1 => ?_⟩
  refine ht F1 H1 σ fps _ (Eo.up u) fun F0 H0 v u0 l0 => ?_
  obtain ⟨fpc0, r0, _⟩ := ((Eo.up u).up u0).loc hg l0
  obtain ⟨p, vs, rfl, _, b2, l, r, nd⟩ := r0.od_inv
  refine hi F0 H0 σ fps _ ((Eo.up u).up u0) fun F2 H2 m u2 r2 => ?_
  obtain rfl := hk F2 m r2
  have E2 := ((Eo.up u).up u0).up u2
  have hlen := repK_len r
  have nd0 := nodup_un r nd
  have nw : RepK K F2 (putK vs (g k) w) (encK g f (puts kvs k a)) := repK_put hgi k (kOk_rep r2) (r1.mono (u0.trans u2).fr) nd0 (r.mono u2.fr)
  have hl2 : (putK vs (g k) w).length ≤ big := by
    have e1 := repK_len nw
    have := puts_len k a kvs
    omega
  have nd2 : ((putK vs (g k) w).map (·.1)).Nodup := by rw [repK_keys nw]; exact nodup_g hgi (puts_nodup nd0)
  obtain ⟨fps2, E3, l3⟩ := E2.set1 (fq := []) hg (l0.mono u2.hp) (fun fpc r a => by obtain ⟨p', _, e1, e2, _⟩ := r.od_inv; cases e1; rw [e2]; simp) (.dK (putK vs (g k) w)) (.od (encK g f (puts kvs k a))) (.od upd_same hl2 nw nd2)
  exact ⟨p, _, rfl, DPut.k (u2.hp.h b2) (Nat.lt_of_lt_of_le (by omega) big_line), kk F2 _ σ fps2 D E3 s (q.le (((u.trans u0).trans u2).le.trans l3))⟩
end
end Vs

/-! Objects of own classes: made, read, asked for their class, their methods. -/
namespace Vs
open PySem PySem.Spec L2
/-! ### what a class says -/
structure ClF (K : PySem.W.Frag) (C : Str) : Prop where
  cls : Cls K (He.ga K C)
  ca : PySem.W.findIn K (.ref (He.ga K C)) "__class__" = some (some (.builtin "object.__class__"))
  mr : PySem.W.mroIn K (He.ga K C) (.type "object") = some true
  cn : PySem.W.specialIn K (.builtin "object.__class__") "__get__" = some (some (.builtin "getset_descriptor.__get__"))
  ct : PySem.W.takesIn K (.builtin "object.__class__") = some true
def clB (K : PySem.W.Frag) (C : Str) : Bool := (He.Fa.cls C).ok K && (decide (PySem.W.findIn K (.ref (He.ga K C)) "__class__" = some (some (.builtin "object.__class__"))) && (decide (PySem.W.mroIn K (He.ga K C) (.type "object") = some true) &&
  (decide (PySem.W.specialIn K (.builtin "object.__class__") "__get__" = some (some (.builtin "getset_descriptor.__get__"))) && decide (PySem.W.takesIn K (.builtin "object.__class__") = some true))))
theorem clB_ok {K : PySem.W.Frag} {C : Str} (h : clB K C = true) : ClF K C := by
  obtain ⟨h1, h⟩ := Bool.and_eq_true_iff.mp h
  obtain ⟨h2, h⟩ := Bool.and_eq_true_iff.mp h
  obtain ⟨h3, h⟩ := Bool.and_eq_true_iff.mp h
  obtain ⟨h4, h5⟩ := Bool.and_eq_true_iff.mp h
  exact ⟨He.cls_ok h1, of_decide_eq_true h2, of_decide_eq_true h3, of_decide_eq_true h4, of_decide_eq_true h5⟩
/-- the class's own names are read plainly -/
structure ClRd (K : PySem.W.Frag) (C : Addr) (mc : Value) : Prop where
  rd : PySem.W.readsIn K C mc = true
  ga : PySem.W.specialIn K (.ref C) "__getattribute__" = some (some (.builtin "type.__getattribute__"))
/-- C.m, read of the class -/
structure SupF (K : PySem.W.Frag) (C m : Str) : Prop where
  rd : ClRd K (He.ga K C) (.type "type")
  at_ : PySem.W.findCls K (.ref (He.ga K C)) (.type "type") m = some (.val (.ref (He.ma K (He.ga K C) m)))
  kp : PySem.W.keepIn K (.ref (He.ma K (He.ga K C) m)) = true
def supB (K : PySem.W.Frag) (C m : Str) : Bool := PySem.W.readsIn K (He.ga K C) (.type "type") && (decide (PySem.W.specialIn K (.ref (He.ga K C)) "__getattribute__" = some (some (.builtin "type.__getattribute__"))) &&
  ((match PySem.W.findCls K (.ref (He.ga K C)) (.type "type") m with
    | some (.val v) => decide (v = .ref (He.ma K (He.ga K C) m))
    | _ => false) && PySem.W.keepIn K (.ref (He.ma K (He.ga K C) m))))
theorem supB_ok {K : PySem.W.Frag} {C m : Str} (h : supB K C m = true) : SupF K C m := by
  obtain ⟨h1, h⟩ := Bool.and_eq_true_iff.mp h
  obtain ⟨h2, h⟩ := Bool.and_eq_true_iff.mp h
  obtain ⟨h3, h4⟩ := Bool.and_eq_true_iff.mp h
  refine ⟨⟨h1, of_decide_eq_true h2⟩, ?_, h4⟩
  cases e : PySem.W.findCls K (.ref (He.ga K C)) (.type "type") m with
  | none => rw [e] at h3; cases h3
  | some z =>
    rw [e] at h3
    cases z with
    | val v => rw [of_decide_eq_true h3]
    | _ => cases h3
/-- is an object of the class C one of D? -/
def IsF (K : PySem.W.Frag) (C D : Str) (b : Bool) : Prop := PySem.W.kitOne K (.ref (He.ga K C)) (.ref (He.ga K D)) = some b
def isB (K : PySem.W.Frag) (C D : Str) (b : Bool) : Bool := decide (PySem.W.kitOne K (.ref (He.ga K C)) (.ref (He.ga K D)) = some b)
theorem isB_ok {K : PySem.W.Frag} {C D : Str} {b : Bool} (h : isB K C D b = true) : IsF K C D b := by
  unfold IsF
  exact of_decide_eq_true h

/-! ### fields -/
def putD (f : Str) (d : Dt) : List (Str × Dt) → List (Str × Dt)
  | [] => [(f, d)]
  | (g, x) :: r => if g = f then (g, d) :: r else (g, x) :: putD f d r
section
variable {K : PySem.W.Frag} {F : Hp}
theorem repF_put {f : Str} {v : V} {d : Dt} (h : Rep K F v d) : ∀ {vs : List (Str × V)} {fs : List (Str × Dt)}, RepF K F vs fs → RepF K F (putF f v vs) (putD f d fs)
  | _, _, .nil => .cons h .nil
  | _, _, .cons (k := g) q r => by
    unfold putF putD
    by_cases e : g = f
    · rw [if_pos e, if_pos e]; exact .cons h r
    · rw [if_neg e, if_neg e]; exact .cons q (repF_put h r)
theorem repF_get {f : Str} {d : Dt} : ∀ {vs : List (Str × V)} {fs : List (Str × Dt)}, RepF K F vs fs → fs.lookup f = some d → ∃ v, vs.lookup f = some v ∧ Rep K F v d
  | _, _, .nil, h => by cases h
  | _, _, .cons (k := g) q r, h => by
    rw [List.lookup_cons] at h ⊢
    by_cases e : (f == g) = true
    · rw [e] at h ⊢
      cases h
      exact ⟨_, rfl, q⟩
    · have e' : (f == g) = false := by simpa using e
      rw [e'] at h ⊢
      exact repF_get r h
theorem repF_no {f : Str} : ∀ {vs : List (Str × V)} {fs : List (Str × Dt)}, RepF K F vs fs → fs.lookup f = none → vs.lookup f = none
  | _, _, .nil, h => rfl
  | _, _, .cons (k := g) q r, h => by
    rw [List.lookup_cons] at h ⊢
    by_cases e : (f == g) = true
    · rw [e] at h; cases h
    · have e' : (f == g) = false := by simpa using e
      rw [e'] at h ⊢
      exact repF_no r h
theorem repF_len : ∀ {vs : List (Str × V)} {fs : List (Str × Dt)}, RepF K F vs fs → vs.length = fs.length
  | _, _, .nil => rfl
  | _, _, .cons _ r => by rw [List.length_cons, List.length_cons, repF_len r]
end
section
variable {I : Type} {X : I → Cx} {K : PySem.W.Frag} {G : Env} {P : Program} {w : World} {mg : Str → Option Value} {base : Heap}
theorem ex_fld {o : Expr} {f C : Str} {fs : List (Str × Dt)} {d : Dt} {pos : Pos} (hK : ∀ j, (X j).K = K) (T : ClF K C) (n : NoAttr K (He.ga K C) f) (ho : EX X K G o (.ins C fs)) (hl : fs.lookup f = some d := by rfl)
    (hb : ∀ j, attributeBase o f (X j).env (eval o (X j).env) = eval o (X j).env := by intro _; rfl) : EX X K G (.Attribute o f pos) d := fun F H σ fps Q k q =>
  ⟨tFld K (wpE X o) f, fun j => hK j ▸ pe_fld (pe_wp j) (hb j), ho F H σ fps _ k fun F1 H1 v u r => by
    cases r with
    | ins h1 r =>
      obtain ⟨w, e, rw_⟩ := repF_get r hl
      exact ⟨_, _, _, _, w, rfl, u.sb.ins h1, T.cls, n, e, q F1 H1 w u rw_⟩⟩
theorem ex_isOwn {o : Expr} {C D : Str} {fs : List (Str × Dt)} {b : Bool} {p p2 pos : Pos} (hK : ∀ j, (X j).K = K) (T : ClF K C) (hi : IsF K C D b) (ho : EX X K G o (.ins C fs)) (hg : ∀ j, Gl (X j) "isinstance") (hm : ∀ j, (X j).mg "isinstance" = none)
    (hgD : ∀ j, Gl (X j) D) (hmD : ∀ j, (X j).mg D = some (.ref (He.ga K D))) (hTd : (D == ("__debug__" : Str)) = false := by decide)
    (he : ∀ j, starEach [o, .Name D p2] (X j).env = (false, eval o (X j).env) :: starEach [.Name D p2] (X j).env := by intro _; rfl) (he2 : ∀ j, starEach [.Name D p2] (X j).env = [(false, eval (.Name D p2) (X j).env)] := by intro _; rfl)
    (hpl : ∀ j, (backTo pos (starEach [.Name D p2] (X j).env)).any (·.1) = false := by intro _; rfl) : EX X K G (.Call (.Name "isinstance" p) [o, .Name D p2] [] pos) (.bl b) := fun F H σ fps Q k q =>
  ⟨tCB (rIsi K) (tCons (wpE X o) (tCons (tC (.ref (He.ga K D))) tNil)), fun j => by
      have c : CallR (X j) (.builtin "isinstance") (rIsi K) := hK j ▸ call_isi
      exact pe_callB c (hg j) (hm j) (by decide +kernel) (pa_cons (pe_wp j) (pa_cons (pe_glob (hgD j) (hmD j) rfl hTd) pa_nil (he2 j)) (he j)) (by decide) (by decide) (he j) (hpl j),
    ho F H σ fps _ k fun F1 H1 v u r => by
      cases r with
      | ins h1 r => exact ⟨_, .ref (He.ga K D), _, _, b, rfl, .own _, .base (.ins (u.sb.ins h1) T.cls T.ca T.cn T.ct T.mr), hi, q F1 H1 _ u (.bl b)⟩⟩
/-! ### methods -/
structure CalleeM (P : Program) (w : World) (K : PySem.W.Frag) (mg : Str → Option Value) (base : Heap) (C m : Str) (k n : Nat) (r : List Dt → Sum Cell Xc → Prop) : Prop where
  ex : ∃ f fd ps, FnOk P w K mg base (L2.CX P w) k f fd ps (spR K n r) ∧ Meth K (He.ga K C) m f ∧ Binds K fd ps []
theorem en_meth0 {o : Expr} {m C : Str} {k n : Nat} {r : List Dt → Sum Cell Xc → Prop} {apos pos : Pos} {fs : List (Str × Dt)} {c : Cell} {pl : I → Sem Bool} (M : CalleeM P w K mg base C m k n r) (T : ClF K C) (hX : Of X P w K mg base) (hr : ∀ j, Room k (X j).A)
    (ho : EX X K G o (.ins C fs)) (hn : 1 = n) (hR : r [.ins C fs] (.inl c)) (hl : fs.lookup m = none := by rfl)
    (ht : ∀ j, eval (.Call (.Attribute o m apos) [] [] pos) (X j).env = (do
      let ov ← eval o (X j).env
      standAt apos.atName
      let (f, first) ← holding [ov] (getMethod ov m (pl j))
      callWith pos f first (backTo pos (starEach [] (X j).env)) (backToKw pos (keywordEach [] (X j).env))) := by intro _; rfl) : EN X K G (.Call (.Attribute o m apos) [] [] pos) c := fun F H σ fps Q Eo q => by
  obtain ⟨f, fd, ps, h1, h2, h3⟩ := M.ex
  refine ⟨tMeth (He.ga K C) m (spR K n r) [] E0 (wpE X o) tNil, fun j => ?_, ho F H σ fps _ Eo fun F1 H1 v u rv => ?_⟩
  · obtain ⟨e1, e2, e3, e4, e5⟩ := hX j
    subst e1 e2 e3 e4 e5
    exact pe_meth0 (pe_wp j) T.cls h2 h1 (hr j) h3 .nil passL (ht j)
  · have rv' := rv
    cases rv with
    | ins h4 r4 =>
      refine ⟨_, _, _, rfl, u.sb.ins h4, repF_no r4 hl, F1, [.ins C fs], .inl c, ⟨u.sb, Eo.tab.up u⟩, .cons rv' .nil, hn, hR, fun F' H' v fp u' r' n' => q F' H' v fp (u.trans u') r' fun a ha => ⟨u.hp.free (n' a ha).1, (n' a ha).2.1, (n' a ha).2.2⟩⟩
theorem en_meth {o : Expr} {m C : Str} {k n : Nat} {r : List Dt → Sum Cell Xc → Prop} {apos pos : Pos} {e : Expr} {es : List Expr} {ds : List Dt} {fs : List (Str × Dt)} {c : Cell} {pl : I → Sem Bool} (M : CalleeM P w K mg base C m k n r) (T : ClF K C) (hX : Of X P w K mg base) (hr : ∀ j, Room k (X j).A)
    (ho : EX X K G o (.ins C fs)) (ha : EA X K G (e :: es) ds) (hn : ds.length + 1 = n) (hR : r (.ins C fs :: ds) (.inl c)) (hl : fs.lookup m = none := by rfl)
    (hst : ∀ j, starEach (e :: es) (X j).env = (false, eval e (X j).env) :: starEach es (X j).env := by intro _; rfl) (hpl : ∀ j, (backTo pos (starEach es (X j).env)).any (·.1) = false := by intro _; rfl)
    (ht : ∀ j, eval (.Call (.Attribute o m apos) (e :: es) [] pos) (X j).env = (do
      let ov ← eval o (X j).env
      standAt apos.atName
      let (f, first) ← holding [ov] (getMethod ov m (pl j))
      callWith pos f first (backTo pos (starEach (e :: es) (X j).env)) (backToKw pos (keywordEach [] (X j).env))) := by intro _; rfl) : EN X K G (.Call (.Attribute o m apos) (e :: es) [] pos) c := fun F H σ fps Q Eo q => by
  obtain ⟨f, fd, ps, h1, h2, h3⟩ := M.ex
  refine ⟨tMeth (He.ga K C) m (spR K n r) [] E0 (wpE X o) (wpA X (e :: es)), fun j => ?_, ho F H σ fps _ Eo fun F1 H1 v u rv => ?_⟩
  · obtain ⟨e1, e2, e3, e4, e5⟩ := hX j
    subst e1 e2 e3 e4 e5
    exact pe_meth (pe_wp j) T.cls h2 h1 (hr j) h3 .nil passL (pa_wp j) (hst j) (hpl j) (ht j)
  · have rv' := rv
    cases rv with
    | ins h4 r4 =>
      refine ⟨_, _, _, rfl, u.sb.ins h4, repF_no r4 hl, ha F1 H1 σ fps _ (Eo.up u) fun F2 H2 vs u2 rl => ?_⟩
      rw [List.append_nil]
      exact ⟨F2, .ins C fs :: ds, .inl c, ⟨u2.sb, (Eo.tab.up u).up u2⟩, .cons (rv'.mono u2.fr) rl, hn, hR, fun F' H' v fp u' r' n' => q F' H' v fp ((u.trans u2).trans u') r' fun a ha => ⟨(u.trans u2).hp.free (n' a ha).1, (n' a ha).2.1, (n' a ha).2.2⟩⟩
end
end Vs

/-! Tuples put together, texts in order, what a head asks of classes. -/
namespace Vs
open PySem PySem.Spec L2
section
variable {I : Type} {X : I → Cx} {K : PySem.W.Frag} {G : Env}
theorem ex_catT {a b : Expr} {pos : Pos} {ds es : List Dt} (hK : ∀ j, (X j).K = K) (h0 : ds ≠ []) (ha : EX X K G a (.tup ds)) (hb : EX X K G b (.tup es)) (hn : ds.length + es.length ≤ big) : EX X K G (.BinOp a .Add b pos) (.tup (ds ++ es)) := fun F H σ fps Q k q =>
  ⟨tOp (rCatT K) (wpE X a) (wpE X b), fun j => hK j ▸ pe_op op_catT (pe_wp j) (pe_wp j), ha F H σ fps _ k fun F1 H1 v u r => hb F1 H1 σ fps _ (k.up u) fun F2 H2 w u2 r2 => by
    cases r with
    | tup h1 l1 r1 => cases r2 with
      | tup h2 l2 r2 =>
        rename_i a vs b ws
        have hl : vs.length + ws.length ≤ big := by rw [r1.len, r2.len]; exact hn
        have hv : vs ≠ [] := fun z => h0 (List.eq_nil_of_length_eq_zero (by rw [← r1.len, z]; rfl))
        refine ⟨a, b, vs, ws, rfl, rfl, SqT.of (u2.hp.h (u.sb.tup h1)), SqT.of (u2.sb.tup h2), hv, Nat.le_trans hl big_line, fun z => ?_, fun z D hD => ?_⟩
        · subst z
          cases r2
          rw [List.append_nil] at q
          exact q F2 H2 _ (u.trans u2) (.tup (u2.fr _ _ h1) l1 (r1.mono u2.fr))
        · refine q (upd F2 D (.tup (vs ++ ws))) (upd H2 D (.tup (vs ++ ws))) _ ((u.trans u2).trans (Up.lay u2.sb hD)) (.tup upd_same (by rw [List.length_append]; exact hl) (((r1.mono u2.fr).append r2).mono (Ex.new (u2.sb.none hD))))⟩
theorem x_catT {A : Type} {a b : Expr} {pos : Pos} {xs ys : List A} (f : A → Dt) (hK : ∀ j, (X j).K = K) (h0 : xs ≠ []) (ha : EX X K G a (.tup (xs.map f))) (hb : EX X K G b (.tup (ys.map f))) (hn : xs.length + ys.length ≤ big) : EX X K G (.BinOp a .Add b pos) (.tup ((xs ++ ys).map f)) :=
  (ex_catT hK (fun z => h0 (List.map_eq_nil_iff.mp z)) ha hb (by rw [List.length_map, List.length_map]; exact hn)).is (by rw [List.map_append])
theorem ex_tupT {e : Expr} {p pos : Pos} {ds : List Dt} (hK : ∀ j, (X j).K = K) (h : EX X K G e (.tup ds)) (hg : ∀ j, Gl (X j) "tuple") (hm : ∀ j, (X j).mg "tuple" = none)
    (he : ∀ j, starEach [e] (X j).env = [(false, eval e (X j).env)] := by intro _; rfl) : EX X K G (.Call (.Name "tuple" p) [e] [] pos) (.tup ds) := fun F H σ fps Q k q =>
  ⟨tCB (fun xs H Q => ∃ p ys, xs = [V.ref p] ∧ ((SqL K H p ys ∧ ∀ l, H l = none → Q (.ref l) (upd H l (.tup ys))) ∨ (SqT K H p ys ∧ Q (.ref p) H))) (tCons (wpE X e) tNil), fun j => hK j ▸ pe_callTy call_tuple_of (hg j) (hm j) (by decide +kernel) (pa_cons (pe_wp j) pa_nil (he j)) (by decide) (by decide) (he j) rfl, h F H σ fps _ k fun F1 H1 v u r => by
    have r' := r
    cases r with
    | tup h1 l1 r1 => exact ⟨_, _, rfl, .inr ⟨SqT.of (u.sb.tup h1), q F1 H1 _ u r'⟩⟩⟩
def ltS (i j : Str) : Bool := decide (i.cps.toList < j.cps.toList)
theorem says_ltS {i j : Str} : Says X K .Lt (.str i) (.str j) (ltS i j) := ⟨_, fun _ => op_lt_str, fun F H v w Q u r1 r2 q => by
  cases r1; cases r2
  exact ⟨i, j, rfl, rfl, q⟩⟩
end
theorem CalleeM.up {P : Program} {w : World} {K : PySem.W.Frag} {mg : Str → Option Value} {base : Heap} {C m : Str} {k k' n : Nat} {r : List Dt → Sum Cell Xc → Prop} (c : CalleeM P w K mg base C m k n r) (h : k ≤ k') : CalleeM P w K mg base C m k' n r := by
  obtain ⟨f, fd, ps, h1, h2, h3⟩ := c.ex
  exact ⟨f, fd, ps, h1.mono h, h2, h3⟩
/-! ### what a head asks beside the kit's facts -/
inductive Ya where
  | cl (C : Str)
  | sup (C m : Str)
  | isA (C D : Str) (b : Bool)
  | same (C D m : Str)
  | ali (x y : Str)
  | nolam
  | lam
def Ya.ok (K : PySem.W.Frag) : Ya → Bool
  | .cl C => clB K C
  | .sup C m => supB K C m
  | .isA C D b => isB K C D b
  | .same C D m => decide (He.ma K (He.ga K C) m = He.ma K (He.ga K D) m)
  | .ali x y => decide (He.ga K x = He.ga K y)
  | .nolam => !lamB K
  | .lam => lamB K
theorem same_ok {K : PySem.W.Frag} {C D m : Str} (h : (Ya.same C D m).ok K = true) : He.ma K (He.ga K C) m = He.ma K (He.ga K D) m := of_decide_eq_true h
theorem ali_ok {K : PySem.W.Frag} {x y : Str} (h : (Ya.ali x y).ok K = true) : He.ga K x = He.ga K y := of_decide_eq_true h
theorem nolam_ok {K : PySem.W.Frag} (h : Ya.nolam.ok K = true) : lamB K = false := by
  have z : (!lamB K) = true := h
  cases e : lamB K with
  | false => rfl
  | true => rw [e] at z; cases z
theorem meth_as {K : PySem.W.Frag} {C D m : Str} (h : (Ya.same C D m).ok K = true) (M : Meth K (He.ga K C) m (He.ma K (He.ga K C) m)) : Meth K (He.ga K C) m (He.ma K (He.ga K D) m) := same_ok h ▸ M
def obsY (n : Nat) (fa : List He.Fa) (fn : List He.DefD) (ya : List Ya) (g : Addr → Option Obj) : He.AlD := ((He.obsD fa fn (He.frG g (He.asD g n ++ [cStatics]))).1 && ya.all fun y => y.ok (He.frG g (He.asD g n ++ [cStatics])), (He.obsD fa fn (He.frG g (He.asD g n ++ [cStatics]))).2)
def SaysY (fa : List He.Fa) (fn : List He.DefD) (ya : List Ya) (K : PySem.W.Frag) : Prop := He.SaysD fa fn K ∧ (ya.all fun y => y.ok K) = true
theorem saysY_of {fa : List He.Fa} {fn : List He.DefD} {ya : List Ya} {K : PySem.W.Frag} (h : (((He.obsD fa fn K).1 && ya.all fun y => y.ok K, (He.obsD fa fn K).2) : He.AlD) = He.valD fn) : SaysY fa fn ya K := by
  have h1 : ((He.obsD fa fn K).1 && ya.all fun y => y.ok K) = true := (Prod.ext_iff.mp h).1
  have h2 : (He.obsD fa fn K).2 = (He.valD fn).2 := (Prod.ext_iff.mp h).2
  obtain ⟨a, b⟩ := Bool.and_eq_true_iff.mp h1
  exact ⟨Prod.ext a h2, b⟩
def hookY (n : Nat) (fa : List He.Fa) (fn : List He.DefD) (ya : List Ya) : PySem.W.Hook where
  α := He.AlD
  obs := fun s => obsY n fa fn ya s.heap.get?
  val := fun _ => He.valD fn
  says := fun _ h => ∃ K : PySem.W.Frag, K.In h ∧ SaysY fa fn ya K
  of := fun _ _ e => ⟨_, He.frG_in, saysY_of e⟩
  keeps := fun _ _ _ ⟨K, hK, c⟩ k => ⟨K, PySem.W.Frag.In.keeps hK k, c⟩
theorem obsY_eq {n : Nat} {fa : List He.Fa} {fn : List He.DefD} {ya : List Ya} {g : Addr → Option Obj} {s : Shared} (h : ∀ a, g a = s.heap.get? a) : obsY n fa fn ya g = (hookY n fa fn ya).obs s := by
  have e : g = s.heap.get? := funext h
  rw [e] <;> rfl
theorem SaysY.ya {fa : List He.Fa} {fn : List He.DefD} {ya : List Ya} {K : PySem.W.Frag} (c : SaysY fa fn ya K) (i : Nat) {y : Ya} (h : ya[i]? = some y := by rfl) : y.ok K = true := List.all_eq_true.mp c.2 y (List.mem_of_getElem? h)
end Vs

/-! What is owned, handed to one expression that keeps nothing of it. -/
namespace Vs
open PySem PySem.Spec L2
/-- a list or a dict -/
def isCo : HO → Bool
  | .lst _ => true
  | .dK _ => true
  | .dT _ => true
  | _ => false
mutual
def noL : Dt → Bool
  | .non => true
  | .bl _ => true
  | .int _ => true
  | .str _ => true
  | .tup xs => noLs xs
  | .ins _ fs => noLf fs
  | _ => false
def noLs : List Dt → Bool
  | [] => true
  | d :: ds => noL d && noLs ds
def noLf : List (Str × Dt) → Bool
  | [] => true
  | (_, d) :: ds => noL d && noLf ds
end
def noLk : List (Key × Dt) → Bool
  | [] => true
  | (_, d) :: ds => noL d && noLk ds
section
variable {K : PySem.W.Frag} {F F' : Hp} (e : ∀ a o, F a = some o → isCo o = false → F' a = some o)
include e
mutual
theorem Rep.noC : ∀ {v : V} {d : Dt}, Rep K F v d → noL d = true → Rep K F' v d
  | _, _, .non, _ => .non
  | _, _, .bl b, _ => .bl b
  | _, _, .int i, _ => .int i
  | _, _, .str s h, _ => .str s h
  | _, _, .tup h l r, n => .tup (e _ _ h rfl) l (RepL.noC r (by unfold noL at n; exact n))
  | _, _, .ins h r, n => .ins (e _ _ h rfl) (RepF.noC r (by unfold noL at n; exact n))
  | _, _, .lst _ _ _, n => by unfold noL at n; cases n
  | _, _, .dic _ _ _ _, n => by unfold noL at n; cases n
  | _, _, .dit _ _ _ _, n => by unfold noL at n; cases n
  | _, _, .scr _ _ _, n => by unfold noL at n; cases n
theorem RepL.noC : ∀ {v : List V} {d : List Dt}, RepL K F v d → noLs d = true → RepL K F' v d
  | _, _, .nil, _ => .nil
  | _, _, .cons h r, n => by
    unfold noLs at n
    obtain ⟨n1, n2⟩ := Bool.and_eq_true_iff.mp n
    exact .cons (Rep.noC h n1) (RepL.noC r n2)
theorem RepF.noC : ∀ {v : List (Str × V)} {d : List (Str × Dt)}, RepF K F v d → noLf d = true → RepF K F' v d
  | _, _, .nil, _ => .nil
  | _, _, .cons h r, n => by
    unfold noLf at n
    obtain ⟨n1, n2⟩ := Bool.and_eq_true_iff.mp n
    exact .cons (Rep.noC h n1) (RepF.noC r n2)
end
theorem RepK.noC : ∀ {v : List (Key × V)} {d : List (Key × Dt)}, RepK K F v d → noLk d = true → RepK K F' v d
  | _, _, .nil, _ => .nil
  | _, _, .cons o h r, n => by
    unfold noLk at n
    obtain ⟨n1, n2⟩ := Bool.and_eq_true_iff.mp n
    exact .cons o (Rep.noC e h n1) (RepK.noC r n2)
end
theorem noLs_map {A : Type} {f : A → Dt} (h : ∀ x, noL (f x) = true) : ∀ xs : List A, noLs (xs.map f) = true
  | [] => rfl
  | x :: xs => by
    show (noL (f x) && noLs (xs.map f)) = true
    rw [h x, noLs_map h xs]; rfl
theorem noLk_enc {κ A : Type} {g : κ → Key} {f : A → Dt} (h : ∀ x, noL (f x) = true) : ∀ xs : List (κ × A), noLk (encK g f xs) = true
  | [] => rfl
  | x :: xs => by
    show (noL (f x.2) && noLk (encK g f xs)) = true
    rw [h x.2, noLk_enc h xs]; rfl
theorem nol_non (x : Unit) : noL .non = true := rfl
theorem nol_int (x : Int) : noL (.int x) = true := rfl
theorem nol_str (x : Str) : noL (.str x) = true := rfl
theorem nol_bl (x : Bool) : noL (.bl x) = true := rfl
theorem nol_vtup {A : Type} {f : A → Dt} (h : ∀ x, noL (f x) = true) (xs : List A) : noL (.tup (xs.map f)) = true := noLs_map h xs
theorem nol_opt {A : Type} {f : A → Dt} (h : ∀ x, noL (f x) = true) (o : Option A) : noL (encO f o) = true := by cases o with | none => rfl | some x => exact h x
theorem nol_tup1 {d : Dt} (h : noL d = true) : noL (.tup [d]) = true := by show (noL d && true) = true; rw [h]; rfl
theorem nol_tup2 {d e : Dt} (h : noL d = true) (h2 : noL e = true) : noL (.tup [d, e]) = true := by show (noL d && (noL e && true)) = true; rw [h, h2]; rfl
theorem nol_tup3 {d e f : Dt} (h : noL d = true) (h2 : noL e = true) (h3 : noL f = true) : noL (.tup [d, e, f]) = true := by show (noL d && (noL e && (noL f && true))) = true; rw [h, h2, h3]; rfl
theorem nol_tup4 {d e f g : Dt} (h : noL d = true) (h2 : noL e = true) (h3 : noL f = true) (h4 : noL g = true) : noL (.tup [d, e, f, g]) = true := by show (noL d && (noL e && (noL f && (noL g && true)))) = true; rw [h, h2, h3, h4]; rfl
/-- a list or a dict of its own -/
def flatC : Cell → Bool
  | .ol _ => true
  | .od _ => true
  | .odt _ => true
  | _ => false
section
variable {K : PySem.W.Frag} {F H : Hp} {σ : L2.St} {G : Env} {fps : Nat → List Addr} {i : Nat} {π : List Nat} {c : Cell} {d0 : Dt}
theorem flat_fp {fp : List Addr} {v : V} (r : RepC K F H fp v c) (h : flatC c = true) : ∀ a ∈ fp, ∃ o, H a = some o ∧ isCo o = true := by
  cases r with
  | fz _ => cases h
  | oc _ _ _ _ _ => cases h
  | ob _ _ _ => cases h
  | hl => cases h
  | fl _ _ _ => cases h
  | ol h1 _ _ => intro a ha; obtain rfl : a = _ := by simpa using ha
                 exact ⟨_, h1, rfl⟩
  | od h1 _ _ _ => intro a ha; obtain rfl : a = _ := by simpa using ha
                   exact ⟨_, h1, rfl⟩
  | odt h1 _ _ _ => intro a ha; obtain rfl : a = _ := by simpa using ha
                    exact ⟨_, h1, rfl⟩
open Classical in
/-- what is seen as frozen meanwhile -/
theorem EnvOk.thaw (E : EnvOk K F H σ G fps) (h : atG G i π = some c) (hd : c.data = some d0) (hc : flatC c = true) :
    ∃ F0 fps0, EnvOk K F0 H σ (updG G i π (.fz d0)) fps0 ∧ ∀ F2 H2, Up F0 H F2 H2 → ∃ F3, Up F H F3 H2 ∧ (∀ a o, F2 a = some o → isCo o = false → F3 a = some o) ∧ (∀ a, F2 a = none → F3 a = none) := by
  obtain ⟨F0, fps0, fpc, E0, ex, out, ow, n, v, r⟩ := E.freeze h hd
  have fl := flat_fp r hc
  refine ⟨F0, fps0, E0, fun F2 H2 u => ⟨fun a => if a ∈ fpc then none else F2 a, ⟨fun a o z => ?_, u.hp, fun a z z' => ?_, fun a o z => ?_⟩, fun a o z z' => ?_, fun a z => ?_⟩⟩
  · have hn : a ∉ fpc := fun y => by rw [(n a y).1] at z; cases z
    show (if a ∈ fpc then none else F2 a) = some o
    rw [if_neg hn]
    exact u.fr a o (ex a o z)
  · show (if a ∈ fpc then none else F2 a) = none
    by_cases hn : a ∈ fpc
    · rw [if_pos hn]
    · rw [if_neg hn]
      exact u.nw a (by rw [out a hn]; exact z) z'
  · have z : (if a ∈ fpc then none else F2 a) = some o := z
    by_cases hn : a ∈ fpc
    · rw [if_pos hn] at z; cases z
    · rw [if_neg hn] at z
      exact u.sb a o z
  · show (if a ∈ fpc then none else F2 a) = some o
    by_cases hn : a ∈ fpc
    · obtain ⟨o', h1, h2⟩ := fl a hn
      have := u.fr a o' (by rw [(n a hn).2]; exact h1)
      rw [z] at this
      cases this
      rw [z'] at h2; cases h2
    · rw [if_neg hn]; exact z
  · show (if a ∈ fpc then none else F2 a) = none
    by_cases hn : a ∈ fpc
    · rw [if_pos hn]
    · rw [if_neg hn]; exact z
end
section
variable {I : Type} {X : I → Cx} {K : PySem.W.Frag} {G G' : Env}
theorem thaw (i : Nat) (π : List Nat) {c : Cell} {d0 d : Dt} {e : Expr} (hg : atG G i π = some c) (hd : c.data = some d0) (hc : flatC c = true) (hG : updG G i π (.fz d0) = G') (h : EX X K G' e d) (n : noL d = true) : EX X K G e d := fun F H σ fps Q E q => by
  subst hG
  obtain ⟨F0, fps0, E0, go⟩ := E.thaw hg hd hc
  refine h F0 H σ fps0 Q E0 fun F' H' v u r => ?_
  obtain ⟨F3, u3, k, _⟩ := go F' H' u
  exact q F3 H' v u3 (r.noC k n)
theorem thawB (i : Nat) (π : List Nat) {c : Cell} {d0 : Dt} {b : Bool} {e : Expr} (hg : atG G i π = some c) (hd : c.data = some d0) (hc : flatC c = true) (hG : updG G i π (.fz d0) = G') (h : EB X K G' e b) : EB X K G e b := fun F H σ fps Q E q => by
  subst hG
  obtain ⟨F0, fps0, E0, go⟩ := E.thaw hg hd hc
  refine h F0 H σ fps0 Q E0 fun F' H' u => ?_
  obtain ⟨F3, u3, _, _⟩ := go F' H' u
  exact q F3 H' u3
theorem thawL (i : Nat) (π : List Nat) {c : Cell} {d0 : Dt} {ds : List Dt} {e : Expr} (hg : atG G i π = some c) (hd : c.data = some d0) (hc : flatC c = true) (hG : updG G i π (.fz d0) = G') (h : EN X K G' e (.ol ds)) (n : noLs ds = true) : EN X K G e (.ol ds) := fun F H σ fps Q E q => by
  subst hG
  obtain ⟨F0, fps0, E0, go⟩ := E.thaw hg hd hc
  refine h F0 H σ fps0 Q E0 fun F' H' v fp u r nw => ?_
  obtain ⟨F3, u3, k, k'⟩ := go F' H' u
  cases r with
  | ol h1 l r => exact q F3 H' _ _ u3 (.ol h1 l (r.noC k n)) fun a ha => ⟨(nw a ha).1, k' a (nw a ha).2.1, (nw a ha).2.2⟩
theorem thawD (i : Nat) (π : List Nat) {c : Cell} {d0 : Dt} {ds : List (Key × Dt)} {e : Expr} (hg : atG G i π = some c) (hd : c.data = some d0) (hc : flatC c = true) (hG : updG G i π (.fz d0) = G') (h : EN X K G' e (.od ds)) (n : noLk ds = true) : EN X K G e (.od ds) := fun F H σ fps Q E q => by
  subst hG
  obtain ⟨F0, fps0, E0, go⟩ := E.thaw hg hd hc
  refine h F0 H σ fps0 Q E0 fun F' H' v fp u r nw => ?_
  obtain ⟨F3, u3, k, k'⟩ := go F' H' u
  cases r with
  | od h1 l r nd => exact q F3 H' _ _ u3 (.od h1 l (r.noC k n) nd) fun a ha => ⟨(nw a ha).1, k' a (nw a ha).2.1, (nw a ha).2.2⟩
end
end Vs

/-! Calls that are handed own things, own objects. -/
namespace Vs
open PySem PySem.Spec L2

/-! ### fields of own objects -/
section
variable {I : Type} {X : I → Cx} {K : PySem.W.Frag} {G : Env}
theorem ep_fld {o : Expr} {f C : Str} {i : Nat} {π : List Nat} {fs : List (Str × Cell)} (j : Nat) {pos : Pos} (hK : ∀ j, (X j).K = K) (T : ClF K C) (n : NoAttr K (He.ga K C) f) (ho : EP X K G o i π) (hg : atG G i π = some (.ob C fs)) (hl : ixF f fs = some j := by rfl)
    (hb : ∀ j, attributeBase o f (X j).env (eval o (X j).env) = eval o (X j).env := by intro _; rfl) : EP X K G (.Attribute o f pos) i (π ++ [j]) := fun F H σ fps Q k q =>
  ⟨tFld K (wpE X o) f, fun m => hK m ▸ pe_fld (pe_wp m) (hb m), ho F H σ fps _ k fun F1 H1 v u l => by
    obtain ⟨fpc, r, _⟩ := (k.up u).loc hg l
    obtain ⟨p, dx, fq, vs, rfl, _, h1, r, _⟩ := r.ob_inv
    obtain ⟨w, e1, e2⟩ := repCF_ix r hl
    exact ⟨_, _, _, _, w, rfl, h1, T.cls, n, e2, q F1 H1 w u ⟨l.choose, l.choose_spec.1, LocV.snocF h1 e1 l.choose_spec.2⟩⟩⟩
end

/-! ### own things handed over -/
inductive RepCL (K : PySem.W.Frag) (F H : Hp) : List Addr → List V → List Cell → Prop
  | nil : RepCL K F H [] [] []
  | cons {v : V} {c : Cell} {fp fq : List Addr} {vs : List V} {cs : List Cell} : RepC K F H fp v c → RepCL K F H fq vs cs → (∀ a ∈ fp, a ∉ fq) → RepCL K F H (fp ++ fq) (v :: vs) (c :: cs)
theorem RepCL.len {K : PySem.W.Frag} {F H : Hp} : ∀ {fp : List Addr} {vs : List V} {cs : List Cell}, RepCL K F H fp vs cs → vs.length = cs.length
  | _, _, _, .nil => rfl
  | _, _, _, .cons _ rs _ => congrArg (· + 1) rs.len
theorem RepCL.mono {K : PySem.W.Frag} {F H F' H' : Hp} (e : Ex F F') : ∀ {fp : List Addr} {v : List V} {c : List Cell}, (∀ a ∈ fp, ∀ o, H a = some o → nT o = true → H' a = some o) → RepCL K F H fp v c → RepCL K F' H' fp v c
  | _, _, _, _, .nil => .nil
  | _, _, _, k, .cons r rs d => .cons (r.mono e fun a ha => k a (List.mem_append_left _ ha)) (rs.mono e fun a ha => k a (List.mem_append_right _ ha)) d
theorem RepCL.all {K : PySem.W.Frag} {F H : Hp} : ∀ {fp : List Addr} {v : List V} {c : List Cell}, RepCL K F H fp v c → ∀ a ∈ fp, ∃ o, H a = some o ∧ nTC o = true
  | _, _, _, .nil, a, h => nomatch h
  | _, _, _, .cons r rs _, a, h => (List.mem_append.mp h).elim (RepC.all r a) (RepCL.all rs a)
theorem RepCL.ofL {K : PySem.W.Frag} {F H : Hp} : ∀ {vs : List V} {ds : List Dt}, RepL K F vs ds → RepCL K F H [] vs (ds.map .fz)
  | _, _, .nil => .nil
  | _, _, .cons r rs => .cons (.fz r) (RepCL.ofL rs) (fun a ha => nomatch ha)
/-- a def that may be handed own things: what it answers or raises, and what the things are then -/
def spB (K : PySem.W.Frag) (n : Nat) (r : List Cell → Sum Cell Xc → List Cell → Prop) : Sp := fun vs H Q E => ∃ (F : Hp) (cs : List Cell) (a : Sum Cell Xc) (outs : List Cell) (fp : List Addr), (Sub F H ∧ Tb K F H) ∧ RepCL K F H fp vs cs ∧ (∀ b ∈ fp, F b = none ∧ H b ≠ none) ∧ cs.length = n ∧ r cs a outs ∧ (match a with
  | .inl c => ∀ (F' H' : Hp) (v : V) (fq fp' : List Addr), Le (fun b => b ∈ fp) F H F' H' (fun b => b ∈ fq ∨ b ∈ fp') → Sub F' H' → RepC K F' H' fq v c → RepCL K F' H' fp' vs outs → (∀ b ∈ fq, F' b = none ∧ H' b ≠ none ∧ b ∉ fp') → (∀ b ∈ fp', F' b = none ∧ H' b ≠ none) → Q v H'
  | .inr x => ∀ (F' H' : Hp) (d : Option Addr) (fp' : List Addr), Le (fun b => b ∈ fp) F H F' H' (fun b => b ∈ fp') → Sub F' H' → XRep K F' d x.fs → RepCL K F' H' fp' vs outs → (∀ b ∈ fp', F' b = none ∧ H' b ≠ none) → E (.ref (He.ga K x.cls)) d H')
structure CalleeB (P : Program) (w : World) (K : PySem.W.Frag) (mg : Str → Option Value) (base : Heap) (x : Str) (k n : Nat) (r : List Cell → Sum Cell Xc → List Cell → Prop) : Prop where
  ex : ∃ f fd ps, FnOk P w K mg base (L2.CX P w) k f fd ps (spB K n r) ∧ mg x = some (.ref f) ∧ PySem.W.keepIn K (.ref f) = true ∧ Binds K fd ps []
structure CalleeBM (P : Program) (w : World) (K : PySem.W.Frag) (mg : Str → Option Value) (base : Heap) (C m : Str) (k n : Nat) (r : List Cell → Sum Cell Xc → List Cell → Prop) : Prop where
  ex : ∃ f fd ps, FnOk P w K mg base (L2.CX P w) k f fd ps (spB K n r) ∧ Meth K (He.ga K C) m f ∧ Binds K fd ps []
theorem CalleeBM.up {P : Program} {w : World} {K : PySem.W.Frag} {mg : Str → Option Value} {base : Heap} {C m : Str} {k k' n : Nat} {r : List Cell → Sum Cell Xc → List Cell → Prop} (c : CalleeBM P w K mg base C m k n r) (h : k ≤ k') : CalleeBM P w K mg base C m k' n r := by
  obtain ⟨f, fd, ps, h1, h2, h3⟩ := c.ex
  exact ⟨f, fd, ps, h1.mono h, h2, h3⟩

/-! ### a def that is handed own things: its body -/
/-- the cells at the entry -/
def startC (N : List Str) (cs : List Cell) : Env := cs.map some ++ List.replicate (N.length - cs.length) none
def Cell.isFz : Cell → Bool
  | .fz _ => true
  | _ => false
def headC : Env → Cell
  | some c :: _ => c
  | _ => .hl .non
def hasC : Env → Bool
  | some _ :: _ => true
  | _ => false
/-- what the things are at the end: data as it was -/
def outsOf : List Cell → Env → List Cell
  | [], _ => []
  | c :: cs, G => (cond c.isFz c (headC G)) :: outsOf cs G.tail
/-- the slots of the own ones -/
def ownIx : List Cell → Nat → List Nat
  | [], _ => []
  | c :: cs, n => cond c.isFz (ownIx cs (n + 1)) (n :: ownIx cs (n + 1))
/-- each own one has a cell at the end -/
def allOut : List Cell → Env → Bool
  | [], _ => true
  | c :: cs, G => (c.isFz || hasC G) && allOut cs G.tail
inductive OutB : Out → Sum Cell Xc → Env → Prop
  | rt (c : Cell) (G : Env) : OutB (.rt c (some G)) (.inl c) G
  | nx (G : Env) : OutB (.nx G) (.inl (.fz .non)) G
  | xc (x : Xc) (G : Env) : OutB (.xc x G) (.inr x) G
theorem RepCL.get {K : PySem.W.Frag} {F H : Hp} : ∀ {fp : List Addr} {vs : List V} {cs : List Cell}, RepCL K F H fp vs cs → ∀ {i : Nat} {c : Cell}, cs[i]? = some c → ∃ v fpi, vs[i]? = some v ∧ RepC K F H fpi v c ∧ (∀ a ∈ fpi, a ∈ fp)
  | _, _, _, .nil, i, c, h => by simp at h
  | _, _, _, .cons r rs d, 0, c, h => by
    simp at h; subst h
    exact ⟨_, _, rfl, r, fun a ha => List.mem_append_left _ ha⟩
  | _, _, _, .cons r rs d, i + 1, c, h => by
    obtain ⟨v, fpi, h1, h2, h3⟩ := rs.get (i := i) (c := c) (by simpa using h)
    exact ⟨v, fpi, by simpa using h1, h2, fun a ha => List.mem_append_right _ (h3 a ha)⟩
/-- the footprints, slot by slot -/
theorem RepCL.fps {K : PySem.W.Frag} {F H : Hp} : ∀ {fp : List Addr} {vs : List V} {cs : List Cell}, RepCL K F H fp vs cs → ∃ fps : Nat → List Addr, (∀ i c, cs[i]? = some c → ∃ v, vs[i]? = some v ∧ RepC K F H (fps i) v c) ∧ (∀ i a, a ∈ fps i → a ∈ fp) ∧ (∀ i j a, a ∈ fps i → a ∈ fps j → i = j) ∧ (∀ a ∈ fp, ∃ i, a ∈ fps i)
  | _, _, _, .nil => ⟨fun _ => [], fun i c h => by simp at h, (fun i a h => by cases h), (fun i j a h => by cases h), (fun a h => by cases h)⟩
  | _, _, _, .cons (v := v) (c := c) (fp := fpa) (fq := fqa) r rs d => by
    obtain ⟨fps, h1, h2, h3, h4⟩ := rs.fps
    refine ⟨fun i => match i with | 0 => fpa | i + 1 => fps i, fun i c' h => ?_, fun i a h => ?_, fun i j a h h' => ?_, fun a h => ?_⟩
    · cases i with
      | zero => simp at h; subst h; exact ⟨v, rfl, r⟩
      | succ i => exact h1 i c' (by simpa using h)
    · cases i with
      | zero => exact List.mem_append_left _ h
      | succ i => exact List.mem_append_right _ (h2 i a h)
    · cases i with
      | zero => cases j with
        | zero => rfl
        | succ j => exact absurd (h2 j a h') (d a h)
      | succ i => cases j with
        | zero => exact absurd (h2 i a h) (d a h')
        | succ j => exact congrArg (· + 1) (h3 i j a h h')
    · rcases List.mem_append.mp h with h | h
      · exact ⟨0, h⟩
      · obtain ⟨i, hi⟩ := h4 a h
        exact ⟨i + 1, hi⟩
theorem startC_ok {K : PySem.W.Frag} {F H : Hp} {N : List Str} {vs : List V} {cs : List Cell} {fp : List Addr} (s : Sub F H ∧ Tb K F H) (r : RepCL K F H fp vs cs) (n : ∀ b ∈ fp, F b = none ∧ H b ≠ none) : ∃ fps, EnvOk K F H (L2.start N vs) (startC N cs) fps ∧ (∀ a, Owns fps a ↔ a ∈ fp) := by
  obtain ⟨fps, h1, h2, h3, h4⟩ := r.fps
  refine ⟨fps, ⟨s.1, by unfold L2.start startC; simp [r.len], fun i c h => ?_, fun i a h => n a (h2 i a h), h3, s.2⟩, fun a => ⟨fun ⟨i, h⟩ => h2 i a h, h4 a⟩⟩
  unfold startC at h
  unfold L2.start
  by_cases hi : i < cs.length
  · rw [List.getElem?_append_left (by simpa using hi), List.getElem?_map] at h
    have e1 : cs[i]? = some cs[i] := by simp [hi]
    rw [e1] at h
    cases h
    obtain ⟨v, e2, e3⟩ := h1 i _ e1
    refine ⟨v, ?_, e3⟩
    rw [List.getElem?_append_left (by simp [r.len, hi]), List.getElem?_map, e2]
    rfl
  · rw [List.getElem?_append_right (by simpa using Nat.le_of_not_lt hi)] at h
    rw [List.getElem?_replicate] at h
    split at h <;> cases h
theorem ownIx_ge : ∀ (cs : List Cell) (n i : Nat), i ∈ ownIx cs n → n ≤ i
  | [], n, i, h => by cases h
  | c :: cs, n, i, h => by
    unfold ownIx at h
    cases e : c.isFz with
    | true => rw [e] at h; have := ownIx_ge cs (n + 1) i h; omega
    | false =>
      rw [e] at h
      rcases List.mem_cons.mp h with h | h
      · omega
      · have := ownIx_ge cs (n + 1) i h; omega
/-- from the end's cells -/
theorem outs_ok {K : PySem.W.Frag} {F H : Hp} {σ : L2.St} {fps : Nat → List Addr} : ∀ (cs : List Cell) (vs : List V) (G : Env) (n : Nat), allOut cs G = true → vs.length = cs.length → (∀ (i : Nat) d, cs[i]? = some (Cell.fz d) → ∃ v, vs[i]? = some v ∧ Rep K F v d) →
    (∀ (i : Nat) c, G[i]? = some (some c) → ∃ v, σ[n + i]? = some (some v) ∧ RepC K F H (fps (n + i)) v c) → (∀ i, i ∈ ownIx cs n → ∃ v, vs[i - n]? = some v ∧ σ[i]? = some (some v)) → (∀ i j a, a ∈ fps i → a ∈ fps j → i = j) →
    ∃ fp, RepCL K F H fp vs (outsOf cs G) ∧ ∀ a ∈ fp, ∃ i, n ≤ i ∧ a ∈ fps i
  | [], [], _, _, _, _, _, _, _, _ => ⟨[], .nil, fun a h => by cases h⟩
  | [], _ :: _, _, _, _, h, _, _, _, _ => nomatch h
  | _ :: _, [], _, _, _, h, _, _, _, _ => nomatch h
  | c :: cs, v :: vs, G, n, ha, hl, hf, hG, hs, hd => by
    unfold allOut at ha
    rw [Bool.and_eq_true] at ha
    have sub : ∀ i, i ∈ ownIx cs (n + 1) → i ∈ ownIx (c :: cs) n := fun i hi => by
      unfold ownIx
      cases c.isFz with
      | true => exact hi
      | false => exact List.mem_cons_of_mem _ hi
    obtain ⟨fp, r1, r2⟩ := outs_ok cs vs G.tail (n + 1) ha.2 (by simpa using hl) (fun i d h => by
      obtain ⟨w, h1, h2⟩ := hf (i + 1) d (by simpa using h)
      exact ⟨w, by simpa using h1, h2⟩) (fun i c' h => by
      have := hG (i + 1) c' (by cases G with | nil => simp at h | cons g G => simpa using h)
      have e : n + (i + 1) = n + 1 + i := by omega
      rw [e] at this
      exact this) (fun i hi => by
      obtain ⟨w, h1, h2⟩ := hs i (sub i hi)
      have h3 := ownIx_ge cs (n + 1) i hi
      have e : i - n = (i - (n + 1)) + 1 := by omega
      rw [e] at h1
      exact ⟨w, by simpa using h1, h2⟩) hd
    unfold outsOf
    cases e : c.isFz with
    | true =>
      cases c with
      | fz d =>
        obtain ⟨w, h1, h2⟩ := hf 0 d rfl
        have e0 : w = v := by simpa using h1.symm
        subst e0
        refine ⟨[] ++ fp, .cons (.fz h2) r1 (fun a ha' => nomatch ha'), fun a ha' => ?_⟩
        obtain ⟨i, i1, i2⟩ := r2 a (by simpa using ha')
        exact ⟨i, by omega, i2⟩
      | _ => cases e
    | false =>
      have h2 : hasC G = true := by
        have := ha.1
        rw [e] at this
        simpa using this
      obtain ⟨w, s1, s2⟩ := hs n (by unfold ownIx; rw [e]; simp)
      have e0 : w = v := by simpa using s1.symm
      subst e0
      cases G with
      | nil => cases h2
      | cons g G =>
        cases g with
        | none => cases h2
        | some c2 =>
          obtain ⟨w2, q1, q2⟩ := hG 0 c2 rfl
          rw [Nat.add_zero] at q1 q2
          rw [s2] at q1; cases q1
          refine ⟨fps n ++ fp, .cons q2 r1 fun a ha' hb => ?_, fun a ha' => ?_⟩
          · obtain ⟨i, i1, i2⟩ := r2 a hb
            have := hd n i a ha' i2
            omega
          · rcases List.mem_append.mp ha' with h | h
            · exact ⟨n, Nat.le_refl n, h⟩
            · obtain ⟨i, i1, i2⟩ := r2 a h
              exact ⟨i, by omega, i2⟩
section
variable {P : Program} {w : World} {K : PySem.W.Frag} {mg : Str → Option Value} {base : Heap}
theorem fnOk_mkB {x qual : Str} {params : Arguments} {body : List Stmt} {scope : Scope} {f : Addr} {fd : FuncData} {N ps : List Str} {k : Nat} {r : List Cell → Sum Cell Xc → List Cell → Prop} (F : FunD K x qual params body scope [] [] f fd) (S : FnScope N ps scope)
    (h : ∀ (cdv : Value) (A : Around) (outer : List PySem.Env) (s : Shared) (H : Hp) (E : XK) (cs : List Cell) (a : Sum Cell Xc) (outs : List Cell), Room k (A.deeper (PyProof.Rows.envOfC qual scope s.heap.objs.size f cdv)) → r cs a outs → cs.length = ps.length →
      ∃ o Gr, OutB o a Gr ∧ allOut cs Gr = true ∧ outs = outsOf cs Gr ∧ ∀ vl, Run (cxOf (L2.CX P w) P w K mg base N qual scope f cdv A outer s H E) K (wE E) ⟨ownIx cs 0, vl⟩ body (startC N cs) o) : FnOk P w K mg base (L2.CX P w) (k + 1) f fd ps (spB K ps.length r) := by
  refine F.ok S (fun vs H Q E ⟨F', cs, a, outs, fp, _, rl, _, hn, _⟩ => by rw [rl.len, hn]) fun cdv A outer s H vs Q E hr ⟨F', cs, a, outs, fp, hs, rl, hfp, hn, hR, hq⟩ => ?_
  obtain ⟨o, Gr, ho, hal, hou, run⟩ := h cdv A outer s H E cs a outs hr hR hn
  subst hou
  obtain ⟨fps, E0, ow⟩ := startC_ok (N := N) hs rl hfp
  have slf : Slf ⟨ownIx cs 0, fun i => (vs[i]?).getD .non⟩ (L2.start N vs) := fun i hi => by
    have hlt : ∀ (cs : List Cell) (n i : Nat), i ∈ ownIx cs n → i < n + cs.length := by
      intro cs
      induction cs with
      | nil => intro n i h; cases h
      | cons c cs ih =>
        intro n i h
        unfold ownIx at h
        cases e : c.isFz with
        | true => rw [e] at h; have := ih (n + 1) i h; rw [List.length_cons]; omega
        | false =>
          rw [e] at h
          rcases List.mem_cons.mp h with h | h
          · rw [List.length_cons]; omega
          · have := ih (n + 1) i h; rw [List.length_cons]; omega
    have hi2 : i < vs.length := by have := hlt cs 0 i hi; rw [rl.len]; omega
    unfold L2.start
    rw [List.getElem?_append_left (by simpa using hi2), List.getElem?_map, List.getElem?_eq_getElem hi2]
    show some (some vs[i]) = some (some ((vs[i]?).getD .non))
    rw [List.getElem?_eq_getElem hi2]
    rfl
  have final : ∀ (F2 H2 : Hp) (σ' : L2.St) (fps' : Nat → List Addr), EnvOk K F2 H2 σ' Gr fps' → Slf ⟨ownIx cs 0, fun i => (vs[i]?).getD .non⟩ σ' → Ex F' F2 → ∃ fp', RepCL K F2 H2 fp' vs (outsOf cs Gr) ∧ (∀ a ∈ fp', Owns fps' a) := fun F2 H2 σ' fps' e' sl ex => by
    obtain ⟨fp', r1, r2⟩ := outs_ok (K := K) (F := F2) (H := H2) (σ := σ') (fps := fps') cs vs Gr 0 hal rl.len (fun i d hd => by
      obtain ⟨v, fpi, h1, h2, _⟩ := rl.get hd
      exact ⟨v, h1, h2.there.2.mono ex⟩) (fun i c hc => by rw [Nat.zero_add]; exact e'.ent i c hc) (fun i hi => by
      have := sl i hi
      have hi2 : i < vs.length := by
        cases q : vs[i]? with
        | none =>
          have hlt : ∀ (cs : List Cell) (n i : Nat), i ∈ ownIx cs n → i < n + cs.length := by
            intro cs
            induction cs with
            | nil => intro n i h; cases h
            | cons c cs ih =>
              intro n i h
              unfold ownIx at h
              cases e : c.isFz with
              | true => rw [e] at h; have := ih (n + 1) i h; rw [List.length_cons]; omega
              | false =>
                rw [e] at h
                rcases List.mem_cons.mp h with h | h
                · rw [List.length_cons]; omega
                · have := ih (n + 1) i h; rw [List.length_cons]; omega
          have := hlt cs 0 i hi
          rw [rl.len]; omega
        | some v => exact (List.getElem?_eq_some_iff.mp q).1
      refine ⟨vs[i], by simp [hi2], ?_⟩
      rw [this]
      simp [hi2]) e'.dis
    exact ⟨fp', r1, fun a ha => let ⟨i, _, hi⟩ := r2 a ha; ⟨i, hi⟩⟩
  refine run (fun i => (vs[i]?).getD .non) F' H (L2.start N vs) fps { nx := fun _ H' => Q .non H', rt := Q } E0 slf ?_
  have leO : ∀ {F2 H2 : Hp} {O : Addr → Prop}, Le (Owns fps) F' H F2 H2 O → Le (fun b => b ∈ fp) F' H F2 H2 O := fun l => ⟨l.fr, l.hp.imp fun a y => (ow a).mp y, fun a n z z' => l.nw a (fun y => n ((ow a).mp y)) z z', fun a z => (l.ow a z).imp (ow a).mp id⟩
  cases ho with
  | rt c =>
    intro F2 H2 σ' fps' v fq e' sl l rc n
    obtain ⟨fp', r1, r2⟩ := final F2 H2 σ' fps' e' sl l.fr
    exact hq F2 H2 v fq fp' ⟨l.fr, (leO l).hp, (leO l).nw, fun a z => (leO l).ow a (z.imp id (r2 a))⟩ e'.sub rc r1 (fun b hb => ⟨(n b hb).1, (n b hb).2.1, fun y => (n b hb).2.2 (r2 b y)⟩) (fun b hb => e'.ownF (r2 b hb))
  | nx =>
    intro F2 H2 σ' fps' e' sl l
    obtain ⟨fp', r1, r2⟩ := final F2 H2 σ' fps' e' sl l.fr
    exact hq F2 H2 .non [] fp' ⟨l.fr, (leO l).hp, (leO l).nw, fun a z => (leO l).ow a (z.elim (fun y => nomatch y) (r2 a))⟩ e'.sub (.fz .non) r1 (fun b hb => nomatch hb) (fun b hb => e'.ownF (r2 b hb))
  | xc x =>
    intro F2 H2 σ' fps' d e' sl l xr
    obtain ⟨fp', r1, r2⟩ := final F2 H2 σ' fps' e' sl l.fr
    exact hq F2 H2 d fp' ⟨l.fr, (leO l).hp, (leO l).nw, fun a z => (leO l).ow a (r2 a z)⟩ e'.sub xr r1 (fun b hb => e'.ownF (r2 b hb))
end
end Vs

/-! The caller's side: own things lent, what an expression changes. -/
namespace Vs
open PySem PySem.Spec L2
/-- an argument: data, or the own thing at a place -/
inductive Ag where
  | fz (d : Dt)
  | ow (i : Nat) (π : List Nat) (c : Cell)
def Ag.cell : Ag → Cell
  | .fz d => .fz d
  | .ow _ _ c => c
/-- the slots lent -/
def Ag.ixs : List Ag → List Nat
  | [] => []
  | .fz _ :: as => Ag.ixs as
  | .ow i _ _ :: as => i :: Ag.ixs as
/-- the things stand there, in unlike slots -/
def AgOk (G : Env) : List Ag → Prop
  | [] => True
  | .fz _ :: as => AgOk G as
  | .ow i π c :: as => atG G i π = some c ∧ noneIn [i] (Ag.ixs as) = true ∧ AgOk G as
/-- the cells behind -/
def outG (G : Env) : List Ag → List Cell → Env
  | [], _ => G
  | .fz _ :: as, cs => outG G as cs.tail
  | .ow i π _ :: as, cs => outG (updG G i π (match cs with | c :: _ => c | [] => .hl .non)) as cs.tail
inductive AgRep (K : PySem.W.Frag) (F H : Hp) (σ : L2.St) : List V → List Ag → Prop
  | nil : AgRep K F H σ [] []
  | fz {v : V} {d : Dt} {vs : List V} {as : List Ag} : Rep K F v d → AgRep K F H σ vs as → AgRep K F H σ (v :: vs) (.fz d :: as)
  | ow {v : V} {i : Nat} {π : List Nat} {c : Cell} {vs : List V} {as : List Ag} : LocG H σ i π v → AgRep K F H σ vs as → AgRep K F H σ (v :: vs) (.ow i π c :: as)
theorem AgRep.mono {K : PySem.W.Frag} {F H F' H' : Hp} {σ : L2.St} (e : Ex F F') (h : ExH H H') : ∀ {vs : List V} {as : List Ag}, AgRep K F H σ vs as → AgRep K F' H' σ vs as
  | _, _, .nil => .nil
  | _, _, .fz r rs => .fz (r.mono e) (rs.mono e h)
  | _, _, .ow l rs => .ow (l.mono h) (rs.mono e h)
theorem AgRep.len {K : PySem.W.Frag} {F H : Hp} {σ : L2.St} : ∀ {vs : List V} {as : List Ag}, AgRep K F H σ vs as → vs.length = as.length
  | _, _, .nil => rfl
  | _, _, .fz _ rs => congrArg (· + 1) rs.len
  | _, _, .ow _ rs => congrArg (· + 1) rs.len
theorem noneIn_mem {i : Nat} : ∀ {js : List Nat}, noneIn [i] js = true → ∀ j ∈ js, j ≠ i := fun h j hj e => noneIn_ok h i (by simp) (e ▸ hj)
theorem AgOk.ne {G : Env} {i : Nat} {π : List Nat} {x : Cell} : ∀ {as : List Ag}, AgOk G as → (∀ j ∈ Ag.ixs as, j ≠ i) → AgOk (updG G i π x) as
  | [], _, _ => trivial
  | .fz _ :: as, h, n => AgOk.ne (as := as) h n
  | .ow j ρ c :: as, h, n => ⟨by rw [atG_ne (fun z => n j (by simp [Ag.ixs]) z.symm)]; exact h.1, h.2.1, AgOk.ne (as := as) h.2.2 fun m hm => n m (by simp [Ag.ixs, hm])⟩
theorem outG_at {i : Nat} {π : List Nat} : ∀ (as : List Ag) (cs : List Cell) (G : Env), (∀ j ∈ Ag.ixs as, j ≠ i) → atG (outG G as cs) i π = atG G i π
  | [], _, _, _ => rfl
  | .fz _ :: as, cs, G, n => outG_at as cs.tail G n
  | .ow j ρ c :: as, cs, G, n => by
    unfold outG
    rw [outG_at as cs.tail _ fun m hm => n m (by simp [Ag.ixs, hm]), atG_ne (n j (by simp [Ag.ixs]))]
theorem outG_upd {i : Nat} {π : List Nat} {x y : Cell} : ∀ (as : List Ag) (cs : List Cell) (G : Env), (∀ j ∈ Ag.ixs as, j ≠ i) → updG (outG (updG G i π x) as cs) i π y = outG (updG G i π y) as cs
  | [], _, _, _ => updG_upd
  | .fz _ :: as, cs, G, n => outG_upd as cs.tail G n
  | .ow j ρ c :: as, cs, G, n => by
    unfold outG
    have hj : j ≠ i := n j (by simp [Ag.ixs])
    rw [updG_comm (fun z => hj z.symm), outG_upd as cs.tail _ fun m hm => n m (by simp [Ag.ixs, hm]), updG_comm hj]
section
variable {K : PySem.W.Frag}
/-- own things are lent, and given back -/
theorem lend : ∀ (as : List Ag) (G : Env) (F H : Hp) (σ : L2.St) (fps : Nat → List Addr) (vs : List V), EnvOk K F H σ G fps → AgOk G as → AgRep K F H σ vs as →
    ∃ (fp : List Addr) (fps1 : Nat → List Addr) (Gh : Env), RepCL K F H fp vs (as.map Ag.cell) ∧ EnvOk K F H σ Gh fps1 ∧ (∀ a, Owns fps a ↔ Owns fps1 a ∨ a ∈ fp) ∧ (∀ a ∈ fp, ¬ Owns fps1 a) ∧
      ∀ (F2 H2 : Hp) (outs : List Cell) (fp' : List Addr), EnvOk K F2 H2 σ Gh fps1 → RepCL K F2 H2 fp' vs outs → (∀ a ∈ fp', F2 a = none ∧ H2 a ≠ none ∧ ¬ Owns fps1 a) → ∃ fps3, EnvOk K F2 H2 σ (outG G as outs) fps3 ∧ ∀ a, Owns fps3 a → Owns fps1 a ∨ a ∈ fp'
  | [], G, F, H, σ, fps, _, E, _, .nil => ⟨[], fps, G, .nil, E, fun a => by simp, (fun a h => nomatch h), fun F2 H2 outs fp' E2 _ _ => ⟨fps, E2, fun a h => .inl h⟩⟩
  | .fz d :: as, G, F, H, σ, fps, _, E, ok, .fz (v := v) (vs := vs) r rs => by
    obtain ⟨fp, fps1, Gh, h1, h2, h3, h4, h5⟩ := lend as G F H σ fps vs E ok rs
    refine ⟨[] ++ fp, fps1, Gh, .cons (.fz r) h1 (fun a ha => nomatch ha), h2, h3, h4, fun F2 H2 outs fp' E2 ro n => ?_⟩
    cases ro with
    | cons r1 r2 _ =>
      obtain ⟨fps3, e3, o3⟩ := h5 F2 H2 _ _ E2 r2 fun a ha => n a (List.mem_append_right _ ha)
      exact ⟨fps3, e3, fun a ha => (o3 a ha).imp id (List.mem_append_right _)⟩
  | .ow i π c :: as, G, F, H, σ, fps, _, E, ok, .ow (v := v) (vs := vs) l rs => by
    obtain ⟨ok1, ok2, ok3⟩ := ok
    have nj := noneIn_mem ok2
    obtain ⟨v', fpc, fpsA, l', rc, EA', ow, ds⟩ := E.take ok1
    obtain rfl := l.fun l'
    obtain ⟨fp, fps1, Gh, h1, h2, h3, h4, h5⟩ := lend as (updG G i π (.hl v)) F H σ fpsA vs EA' (ok3.ne nj) rs
    refine ⟨fpc ++ fp, fps1, Gh, .cons rc h1 fun a ha hb => ds a ha ((h3 a).mpr (.inr hb)), h2, fun a => ?_, fun a ha => ?_, fun F2 H2 outs fp' E2 ro n => ?_⟩
    · rw [ow a, h3 a, List.mem_append]
      constructor
      · rintro ((h | h) | h)
        · exact .inl h
        · exact .inr (.inr h)
        · exact .inr (.inl h)
      · rintro (h | h | h)
        · exact .inl (.inl h)
        · exact .inr h
        · exact .inl (.inr h)
    · rcases List.mem_append.mp ha with h | h
      · exact fun z => ds a h ((h3 a).mpr (.inl z))
      · exact h4 a h
    · cases ro with
      | cons r1 r2 dj =>
        rename_i c2 fpa fqa cs
        obtain ⟨fps3, e3, o3⟩ := h5 F2 H2 _ _ E2 r2 fun a ha => n a (List.mem_append_right _ ha)
        have hat : atG (outG (updG G i π (.hl v)) as cs) i π = some (.hl v) := by rw [outG_at as cs _ nj]; exact atG_upd ok1
        obtain ⟨fps4, e4, o4⟩ := e3.give hat r1 (fun a ha => let z := n a (List.mem_append_left _ ha); ⟨z.1, z.2.1⟩) fun a ha z => by
          rcases o3 a z with y | y
          · exact (n a (List.mem_append_left _ ha)).2.2 y
          · exact dj a ha y
        rw [outG_upd as cs G nj] at e4
        exact ⟨fps4, e4, fun a ha => by
          rcases (o4 a).mp ha with y | y
          · exact (o3 a y).imp id (List.mem_append_right _)
          · exact .inr (List.mem_append_left _ y)⟩
end

theorem repCF_no {K : PySem.W.Frag} {F H : Hp} {f : Str} : ∀ {fp : List Addr} {vs : List (Str × V)} {fs : List (Str × Cell)}, RepCF K F H fp vs fs → ixF f fs = none → vs.lookup f = none
  | _, _, _, .nil, _ => rfl
  | _, _, _, .cons (k := g) _ rs _, h => by
    unfold ixF at h
    by_cases e : g = f
    · rw [if_pos e] at h; cases h
    · rw [if_neg e] at h
      have e' : (f == g) = false := by simpa using fun z : f = g => e z.symm
      rw [List.lookup_cons, e']
      refine repCF_no rs ?_
      cases q : ixF f _ with
      | none => rfl
      | some m => rw [q] at h; cases h
/-! ### judgements -/
section
variable {X : Cx} {K : PySem.W.Frag} {W : WX} {G : Env}
/-- arguments, own ones by their places -/
def EAB (X : Cx) (K : PySem.W.Frag) (G : Env) (es : List Expr) (as : List Ag) : Prop :=
  ∀ F H σ fps (Q : List V → Hp → Prop), EnvOk K F H σ G fps → (∀ F' H' vs, Up F H F' H' → AgRep K F' H' σ vs as → Q vs H') → wpA (one X) es σ H Q
theorem eab_nil : EAB X K G [] [] := fun F H σ fps Q e q => ⟨_, fun _ => pa_nil, q F H [] (Up.refl e.sub) .nil⟩
theorem eab_fz {e : Expr} {es : List Expr} {d : Dt} {as : List Ag} (h : EX (one X) K G e d) (hr : EAB X K G es as) (he : starEach (e :: es) X.env = (false, eval e X.env) :: starEach es X.env := by rfl) : EAB X K G (e :: es) (.fz d :: as) := fun F H σ fps Q E q =>
  ⟨tCons (wpE (one X) e) (wpA (one X) es), fun _ => pa_cons pe_w1 pa_w1 he, h F H σ fps _ E fun F1 H1 v u r => hr F1 H1 σ fps _ (E.up u) fun F2 H2 vs u2 rs => q F2 H2 _ (u.trans u2) (.fz (r.mono u2.fr) rs)⟩
theorem eab_ow {e : Expr} {es : List Expr} {i : Nat} {π : List Nat} {c : Cell} {as : List Ag} (h : EP (one X) K G e i π) (hr : EAB X K G es as) (he : starEach (e :: es) X.env = (false, eval e X.env) :: starEach es X.env := by rfl) : EAB X K G (e :: es) (.ow i π c :: as) := fun F H σ fps Q E q =>
  ⟨tCons (wpE (one X) e) (wpA (one X) es), fun _ => pa_cons pe_w1 pa_w1 he, h F H σ fps _ E fun F1 H1 v u l => hr F1 H1 σ fps _ (E.up u) fun F2 H2 vs u2 rs => q F2 H2 _ (u.trans u2) (.ow (l.mono u2.hp) rs)⟩
/-- e gives the cell c; the names' cells are then G' -/
def EV (X : Cx) (K : PySem.W.Frag) (G : Env) (e : Expr) (c : Cell) (G' : Env) : Prop :=
  ∀ F H σ fps (Q : VK), EnvOk K F H σ G fps → (∀ F' H' v fq fps', EnvOk K F' H' σ G' fps' → Le (Owns fps) F H F' H' (fun a => a ∈ fq ∨ Owns fps' a) → RepC K F' H' fq v c → (∀ a ∈ fq, F' a = none ∧ H' a ≠ none ∧ ¬ Owns fps' a) → Q v H') → wpE (one X) e σ H Q
theorem EN.ev {e : Expr} {c : Cell} (h : EN (one X) K G e c) : EV X K G e c G := fun F H σ fps Q E q => h F H σ fps Q E fun F' H' v fp u r n =>
  q F' H' v fp fps (E.up u) ⟨u.fr, u.hp.imp fun _ z => z.elim, fun a _ z z' => u.nw a z z', fun a z => z.elim (fun y => .inr (n a y).1) .inl⟩ r fun a ha => ⟨(n a ha).2.1, (n a ha).2.2, fun z => (E.ownF z).2 (n a ha).1⟩
theorem EX.ev {e : Expr} {d : Dt} (h : EX (one X) K G e d) : EV X K G e (.fz d) G := h.en.ev
/-- an own thing as it stands, its name then empty: only where the name is not asked for again -/
theorem le_of_call {F H F1 H1 F' H' : Hp} {O O1 O2 : Addr → Prop} {fp : List Addr} {Q : Addr → Prop} (u : Up F H F1 H1) (ow : ∀ a, O a ↔ O1 a ∨ a ∈ fp) (l : Le (fun b => b ∈ fp) F1 H1 F' H' Q) (h : ∀ a, O2 a → O1 a ∨ Q a) : Le O F H F' H' O2 := by
  refine ⟨u.fr.trans l.fr, ExO.comp u.hp l.hp fun a _ y => (ow a).mpr (.inr y), fun a n z z' => ?_, fun a z => ?_⟩
  · exact l.nw a (fun y => n ((ow a).mpr (.inr y))) (u.nw a z z') (u.hp.n a (fun y => y) z')
  · rcases h a z with y | y
    · exact .inl ((ow a).mpr (.inl y))
    · rcases l.ow a y with y | y
      · exact .inl ((ow a).mpr (.inr y))
      · exact .inr (u.hp.free y)
variable {P : Program} {w : World} {mg : Str → Option Value} {base : Heap}
/-- what the call's promise asks, from lent things -/
theorem lent_call {F H F1 H1 : Hp} {σ : L2.St} {fps : Nat → List Addr} {n : Nat} {r : List Cell → Sum Cell Xc → List Cell → Prop} {as : List Ag} {vs : List V} {c : Cell} {outs : List Cell} {Q : VK} {E0' : XK} (Eo : EnvOk K F H σ G fps) (u : Up F H F1 H1) (ra : AgRep K F1 H1 σ vs as) (ok : AgOk G as) (hn : as.length = n) (hR : r (as.map Ag.cell) (.inl c) outs)
    (q : ∀ F' H' v fq fps', EnvOk K F' H' σ (outG G as outs) fps' → Le (Owns fps) F H F' H' (fun a => a ∈ fq ∨ Owns fps' a) → RepC K F' H' fq v c → (∀ a ∈ fq, F' a = none ∧ H' a ≠ none ∧ ¬ Owns fps' a) → Q v H') : spB K n r vs H1 Q E0' := by
  have E1 := Eo.up u
  obtain ⟨fp, fps1, Gh, h1, h2, h3, h4, h5⟩ := lend as G F1 H1 σ fps vs E1 ok ra
  refine ⟨F1, as.map Ag.cell, .inl c, outs, fp, ⟨u.sb, E1.tab⟩, h1, fun b hb => E1.ownF ((h3 b).mpr (.inr hb)), by rw [List.length_map]; exact hn, hR, fun F' H' v fq fp' l s rc ro n1 n2 => ?_⟩
  have E2 : EnvOk K F' H' σ Gh fps1 := h2.keep l.fr s l.hp (fun a ha y => h4 a y ha) (fun a ha => l.nw a (fun y => h4 a y ha) (h2.ownF ha).1 (h2.ownF ha).2) fun P h => l.nw P (tab_out (E1.tab P h).2 h1.all) (E1.tab P h).1 (tab_there (E1.tab P h).2)
  have nw : ∀ a, a ∈ fq ∨ a ∈ fp' → ¬ Owns fps1 a := fun a ha z => by
    rcases l.ow a ha with y | y
    · exact h4 a y z
    · exact (h2.ownF z).2 y
  obtain ⟨fps3, e3, o3⟩ := h5 F' H' outs fp' E2 ro fun a ha => ⟨(n2 a ha).1, (n2 a ha).2, nw a (.inr ha)⟩
  refine q F' H' v fq fps3 e3 (le_of_call u h3 l fun a z => ?_) rc fun a ha => ⟨(n1 a ha).1, (n1 a ha).2.1, fun z => ?_⟩
  · rcases z with z | z
    · exact .inr (.inl z)
    · exact (o3 a z).imp id .inr
  · rcases o3 a z with y | y
    · exact nw a (.inl ha) y
    · exact (n1 a ha).2.2 y
theorem ev_call {x : Str} {k n : Nat} {r : List Cell → Sum Cell Xc → List Cell → Prop} {p pos : Pos} {e : Expr} {es : List Expr} {as : List Ag} {c : Cell} {outs : List Cell} {G' : Env} (C : CalleeB P w K mg base x k n r) (hX : Of (one X) P w K mg base) (hr : Room k X.A) (hg : Gl X x)
    (ha : EAB X K G (e :: es) as) (ok : AgOk G as) (hn : as.length = n) (hR : r (as.map Ag.cell) (.inl c) outs) (hG : outG G as outs = G') (hdb : (x == ("__debug__" : Str)) = false := by decide) (he : starEach (e :: es) X.env = (false, eval e X.env) :: starEach es X.env := by rfl)
    (hpl : (backTo pos (starEach es X.env)).any (·.1) = false := by rfl) : EV X K G (.Call (.Name x p) (e :: es) [] pos) c G' := fun F H σ fps Q Eo q => by
  subst hG
  obtain ⟨f, fd, ps, h1, h2, h3, h4⟩ := C.ex
  refine ⟨tCall (spB K n r) [] E0 (wpA (one X) (e :: es)), fun j => ?_, ha F H σ fps _ Eo fun F1 H1 vs u ra => ?_⟩
  · obtain ⟨e1, e2, e3, e4, e5⟩ := hX j
    subst e1 e2 e3 e4 e5
    exact pe_call h1 hr hg h2 h3 h4 .nil passL pa_w1 hdb he hpl
  · rw [List.append_nil]
    exact lent_call Eo u ra ok hn hR q
/-- o.m(e, ..), o an own object -/
theorem ev_meth {o : Expr} {m C : Str} {k n i : Nat} {π : List Nat} {fs : List (Str × Cell)} {r : List Cell → Sum Cell Xc → List Cell → Prop} {apos pos : Pos} {e : Expr} {es : List Expr} {as : List Ag} {c : Cell} {outs : List Cell} {G' : Env} {pl : Sem Bool} (M : CalleeBM P w K mg base C m k n r) (T : ClF K C) (hX : Of (one X) P w K mg base) (hr : Room k X.A)
    (ho : EP (one X) K G o i π) (ha : EAB X K G (e :: es) as) (ok : AgOk G (.ow i π (.ob C fs) :: as)) (hn : as.length + 1 = n) (hR : r (.ob C fs :: as.map Ag.cell) (.inl c) outs) (hl : ixF m fs = none) (hG : outG G (.ow i π (.ob C fs) :: as) outs = G')
    (hst : starEach (e :: es) X.env = (false, eval e X.env) :: starEach es X.env := by rfl) (hpl : (backTo pos (starEach es X.env)).any (·.1) = false := by rfl)
    (ht : eval (.Call (.Attribute o m apos) (e :: es) [] pos) X.env = (do
      let ov ← eval o X.env
      standAt apos.atName
      let (f, first) ← holding [ov] (getMethod ov m pl)
      callWith pos f first (backTo pos (starEach (e :: es) X.env)) (backToKw pos (keywordEach [] X.env))) := by rfl) : EV X K G (.Call (.Attribute o m apos) (e :: es) [] pos) c G' := fun F H σ fps Q Eo q => by
  subst hG
  obtain ⟨f, fd, ps, h1, h2, h3⟩ := M.ex
  refine ⟨tMeth (He.ga K C) m (spB K n r) [] E0 (wpE (one X) o) (wpA (one X) (e :: es)), fun j => ?_, ho F H σ fps _ Eo fun F1 H1 v u l => ?_⟩
  · obtain ⟨e1, e2, e3, e4, e5⟩ := hX j
    subst e1 e2 e3 e4 e5
    exact pe_meth pe_w1 T.cls h2 h1 hr h3 .nil passL pa_w1 hst hpl ht
  · obtain ⟨fpc, rc, _⟩ := (Eo.up u).loc ok.1 l
    obtain ⟨p, dx, fq, vs0, rfl, _, hp, rf, _⟩ := rc.ob_inv
    refine ⟨p, dx, vs0, rfl, hp, repCF_no rf hl, ha F1 H1 σ fps _ (Eo.up u) fun F2 H2 vs u2 ra => ?_⟩
    rw [List.append_nil]
    exact lent_call (as := .ow i π (.ob C fs) :: as) Eo (u.trans u2) (.ow (l.mono u2.hp) ra) ok hn hR q
theorem ev_meth0 {o : Expr} {m C : Str} {k n i : Nat} {π : List Nat} {fs : List (Str × Cell)} {r : List Cell → Sum Cell Xc → List Cell → Prop} {apos pos : Pos} {c : Cell} {outs : List Cell} {G' : Env} {pl : Sem Bool} (M : CalleeBM P w K mg base C m k n r) (T : ClF K C) (hX : Of (one X) P w K mg base) (hr : Room k X.A)
    (ho : EP (one X) K G o i π) (ok : AgOk G [.ow i π (.ob C fs)]) (hn : 1 = n) (hR : r [.ob C fs] (.inl c) outs) (hl : ixF m fs = none) (hG : outG G [.ow i π (.ob C fs)] outs = G')
    (ht : eval (.Call (.Attribute o m apos) [] [] pos) X.env = (do
      let ov ← eval o X.env
      standAt apos.atName
      let (f, first) ← holding [ov] (getMethod ov m pl)
      callWith pos f first (backTo pos (starEach [] X.env)) (backToKw pos (keywordEach [] X.env))) := by rfl) : EV X K G (.Call (.Attribute o m apos) [] [] pos) c G' := fun F H σ fps Q Eo q => by
  subst hG
  obtain ⟨f, fd, ps, h1, h2, h3⟩ := M.ex
  refine ⟨tMeth (He.ga K C) m (spB K n r) [] E0 (wpE (one X) o) tNil, fun j => ?_, ho F H σ fps _ Eo fun F1 H1 v u l => ?_⟩
  · obtain ⟨e1, e2, e3, e4, e5⟩ := hX j
    subst e1 e2 e3 e4 e5
    exact pe_meth0 pe_w1 T.cls h2 h1 hr h3 .nil passL ht
  · obtain ⟨fpc, rc, _⟩ := (Eo.up u).loc ok.1 l
    obtain ⟨p, dx, fq, vs0, rfl, _, hp, rf, _⟩ := rc.ob_inv
    exact ⟨p, dx, vs0, rfl, hp, repCF_no rf hl, lent_call (as := [.ow i π (.ob C fs)]) Eo u (.ow l .nil) ok hn hR q⟩
/-! ### making -/
structure CalleeBI (P : Program) (w : World) (K : PySem.W.Frag) (mg : Str → Option Value) (base : Heap) (C : Str) (k n : Nat) (r : List Cell → Sum Cell Xc → List Cell → Prop) : Prop where
  ex : ∃ fd ps, FnOk P w K mg base (L2.CX P w) k (He.ma K (He.ga K C) "__init__") fd ps (spB K n r) ∧ Binds K fd ps []
theorem ev_make {C : Str} {k n : Nat} {r : List Cell → Sum Cell Xc → List Cell → Prop} {p pos : Pos} {e : Expr} {es : List Expr} {as : List Ag} {fs : List (Str × Cell)} {outs : List Cell} {G' : Env} (I : CalleeBI P w K mg base C k n r) (M : Mk K (He.ga K C) (He.ma K (He.ga K C) "__init__")) (gC : mg C = some (.ref (He.ga K C)))
    (hX : Of (one X) P w K mg base) (hr : Room (k + 1) X.A) (hg : Gl X C)
    (ha : EAB X K G (e :: es) as) (ok : AgOk G as) (hn : as.length + 1 = n) (hR : r (.ob C [] :: as.map Ag.cell) (.inl (.fz .non)) (.ob C fs :: outs)) (hG : outG G as outs = G') (hdb : (C == ("__debug__" : Str)) = false := by decide) (he : starEach (e :: es) X.env = (false, eval e X.env) :: starEach es X.env := by rfl)
    (hpl : (backTo pos (starEach es X.env)).any (·.1) = false := by rfl) : EV X K G (.Call (.Name C p) (e :: es) [] pos) (.ob C fs) G' := fun F H σ fps Q Eo q => by
  subst hG
  obtain ⟨fd, ps, h1, h3⟩ := I.ex
  refine ⟨tMake (He.ga K C) (spB K n r) [] E0 (wpA (one X) (e :: es)), fun j => ?_, ha F H σ fps _ Eo fun F1 H1 vs u ra => ?_⟩
  · obtain ⟨e1, e2, e3, e4, e5⟩ := hX j
    subst e1 e2 e3 e4 e5
    exact pe_make M h1 hr hg gC h3 .nil passL pa_w1 hdb he hpl
  · intro x dx nx ndx hne
    rw [List.append_nil]
    have E1 := Eo.up u
    have fx : F1 x = none := u.sb.none nx
    have old : ∀ b o, H1 b = some o → (upd (upd H1 dx (.own x)) x (.ins (He.ga K C) dx [])) b = some o := fun b o z => by
      have n1 : b ≠ x := fun y => by rw [y, nx] at z; cases z
      have n2 : b ≠ dx := fun y => by rw [y, ndx] at z; cases z
      rw [upd_ne n1, upd_ne n2]; exact z
    have s1 : Sub F1 (upd (upd H1 dx (.own x)) x (.ins (He.ga K C) dx [])) := fun a o z => by
      rcases u.sb a o z with y | ⟨b, ob, y⟩
      · exact .inl (old _ _ y)
      · exact .inr ⟨b, ob, old _ _ y⟩
    have nwx : ∀ a, F1 a = none → H1 a ≠ none → F1 a = none := fun a z _ => z
    have u2 : Up F1 H1 F1 (upd (upd H1 dx (.own x)) x (.ins (He.ga K C) dx [])) := ⟨Ex.refl _, ExO.of old, nwx, s1⟩
    obtain ⟨fp, fps1, Gh, g1, g2, g3, g4, g5⟩ := lend as G F1 _ σ fps vs (E1.up u2) ok (ra.mono (Ex.refl _) (ExO.of old))
    have xfp : x ∉ fp := fun z => ((E1.ownF ((g3 x).mpr (.inr z))).2) nx
    have hx : (upd (upd H1 dx (.own x)) x (.ins (He.ga K C) dx [])) x ≠ none := by rw [upd_same]; simp
    refine ⟨F1, .ob C [] :: as.map Ag.cell, .inl (.fz .non), .ob C fs :: outs, [x] ++ fp, ⟨s1, (E1.up u2).tab⟩, .cons (.ob upd_same .nil (by simp)) g1 (fun a ha hb => xfp ((List.mem_singleton.mp ha) ▸ hb)), fun b hb => ?_, by rw [List.length_cons, List.length_map]; exact hn, hR, fun F' H' v fq fp' l s rc ro n1 n2 => ?_⟩
    · rcases List.mem_append.mp hb with z | z
      · obtain rfl : b = x := by simpa using z
        exact ⟨fx, hx⟩
      · exact (E1.up u2).ownF ((g3 b).mpr (.inr z))
    · obtain ⟨rfl, rn⟩ := rc.there
      cases rn
      refine ⟨rfl, ?_⟩
      cases ro with
      | cons r1 r2 dj =>
        rename_i fpa fqa
        have nx1 : ∀ a, Owns fps1 a → a ∉ [x] ++ fp := fun a ha z => by
          rcases List.mem_append.mp z with y | y
          · obtain rfl : a = x := by simpa using y
            exact (E1.ownF ((g3 a).mpr (.inl ha))).2 nx
          · exact g4 a y ha
        have E2 : EnvOk K F' H' σ Gh fps1 := g2.keep l.fr s l.hp nx1 (fun a ha => l.nw a (nx1 a ha) (g2.ownF ha).1 (g2.ownF ha).2) fun P h => l.nw P (fun z => by
          rcases List.mem_append.mp z with y | y
          · obtain rfl : P = x := by simpa using y
            exact tab_no (g2.tab P h).2 upd_same rfl
          · exact tab_out (g2.tab P h).2 g1.all y) (g2.tab P h).1 (tab_there (g2.tab P h).2)
        have nw : ∀ a, a ∈ fpa ++ fqa → ¬ Owns fps1 a := fun a ha z => by
          rcases l.ow a (.inr ha) with y | y
          · exact nx1 a z y
          · exact (g2.ownF z).2 y
        obtain ⟨fps3, e3, o3⟩ := g5 F' H' outs fqa E2 r2 fun a ha => ⟨(n2 a (List.mem_append_right _ ha)).1, (n2 a (List.mem_append_right _ ha)).2, nw a (List.mem_append_right _ ha)⟩
        have u12 := u.trans u2
        refine q F' H' (.ref x) fpa fps3 e3 ⟨u.fr.trans l.fr, ExO.comp u12.hp l.hp fun a z y => ?_, fun a n z z' => ?_, fun a z => ?_⟩ r1 fun a ha => ⟨(n2 a (List.mem_append_left _ ha)).1, (n2 a (List.mem_append_left _ ha)).2, fun z => ?_⟩
        · rcases List.mem_append.mp y with y | y
          · obtain rfl : a = x := by simpa using y
            exact absurd (u.hp.free nx) z
          · exact (g3 a).mpr (.inr y)
        · refine l.nw a (fun y => ?_) (u12.nw a z z') (u12.hp.n a (fun y => y) z')
          · rcases List.mem_append.mp y with y | y
            · obtain rfl : a = x := by simpa using y
              exact z' (u.hp.free nx)
            · exact n ((g3 a).mpr (.inr y))
        · have key : a ∈ fpa ++ fqa → Owns fps a ∨ H a = none := fun y => by
            rcases l.ow a (.inr y) with y | y
            · rcases List.mem_append.mp y with y | y
              · obtain rfl : a = x := by simpa using y
                exact .inr (u.hp.free nx)
              · exact .inl ((g3 a).mpr (.inr y))
            · exact .inr (u12.hp.free y)
          rcases z with z | z
          · exact key (List.mem_append_left _ z)
          · rcases o3 a z with y | y
            · exact .inl ((g3 a).mpr (.inl y))
            · exact key (List.mem_append_right _ y)
        · rcases o3 a z with y | y
          · exact nw a (List.mem_append_left _ ha) y
          · exact dj a ha y
end
end Vs

/-! Statements of expressions that may change own things. -/
namespace Vs
open PySem PySem.Spec L2
section
variable {I : Type} {X : I → Cx} {K : PySem.W.Frag} {G : Env}
/-- a new cell is frozen -/
theorem EN.frz {e : Expr} {c : Cell} {d : Dt} (h : EN X K G e c) (hd : c.data = some d) : EX X K G e d := fun F H σ fps Q E q =>
  h F H σ fps Q E fun F1 H1 v fp u r n => by
    have n1 : ∀ a ∈ fp, F1 a = none := fun a ha => (n a ha).2.1
    have ex := frz_ex (H := H1) n1
    refine q (Vs.frz F1 H1 fp) H1 v ⟨u.fr.trans ex, u.hp, fun a z z' => ?_, frz_sub u.sb⟩ (r.frozen ex (fun a ha => frz_in ha) hd)
    by_cases m : a ∈ fp
    · exact absurd (n a m).1 z'
    · rw [frz_out m]; exact u.nw a z z'
end
section
variable {X : Cx} {K : PySem.W.Frag} {W : WX} {sv : Sv} {G : Env} {rest : List Stmt} {o : Out} {pos : Pos}
/-- x = e -/
theorem run_asgE {B : Type} {i : Nat} {x : Str} {e : Expr} {pos' : Pos} (v : B) (enc : B → Cell) (G1 Gk : B → Env) (oF : B → Out) (P : B → Prop) (h : EV X K G e (enc v) (G1 v)) (hp : P v) (hN : X.N.Nodup) (hG : ∀ y, (G1 y).set i (some (enc y)) = Gk y) (k : ∀ y, P y → Run X K W sv rest (Gk y) (oF y))
    (hi : X.N[i]? = some x := by rfl) (hx : Loc X.env.scope x := by first | exact Or.inl rfl | exact Or.inr rfl) (hl : Nat.blt i (G1 v).length = true := by rfl) (hv : memN sv.ks i = false := by rfl)
    (hs : swapsWith e (some (.Name x pos')) pos.line X.env = pure false := by rfl) (hf : X.fn x = true ∨ X.env.scope.names.lookup x = some .local := by first | exact .inl rfl | exact .inr rfl | assumption) (ho : oF v = o := by rfl) :
    Run X K W sv (.Assign [.Name x pos'] e pos :: rest) G o := ho ▸ fun F H σ fps D E s q =>
  ⟨tSeq (tAsg (wpE (one X) e) (gName i)) (wpSs X rest), pss_cons (ps_set hN hi hx pe_w1 hs hf) pss_wp, h F H σ fps _ E fun F1 H1 u fq fps1 E1 l r n => by
    have E2 := E1.set (i := i) (v := u) (Nat.blt_eq.mp hl) r (fun a ha => ⟨(n a ha).1, (n a ha).2.1⟩) fun a ha j _ z => (n a ha).2.2 ⟨j, z⟩
    rw [hG v] at E2
    exact k v hp F1 H1 _ _ D E2 (s.set hv) (q.le ⟨l.fr, l.hp, l.nw, fun a z => l.ow a (owns_put z)⟩)⟩
/-- return e, nothing kept -/
theorem run_retE {e : Expr} {c : Cell} {G1 : Env} (h : EV X K G e c G1) : Run X K W sv (.Return (some e) pos :: rest) G (.rt c none) := fun F H σ fps D E s q =>
  ⟨tSeq (tRet (wpE (one X) e)) tNever, pss_cons (ps_ret pe_w1) pss_never, h F H σ fps _ E fun F1 H1 v fp fps1 E1 l r n =>
    q F1 H1 v fp E1.sub ⟨l.fr, l.hp, l.nw, fun a z => l.ow a (.inl z)⟩ r fun a ha => ⟨(n a ha).1, (n a ha).2.1⟩⟩
/-- return e, own things kept -/
theorem run_retK {e : Expr} {c : Cell} {G1 Gr : Env} (h : EV X K G e c G1) (w : Weak G1 Gr) : Run X K W sv (.Return (some e) pos :: rest) G (.rt c (some Gr)) := fun F H σ fps D E s q =>
  ⟨tSeq (tRet (wpE (one X) e)) tNever, pss_cons (ps_ret pe_w1) pss_never, h F H σ fps _ E fun F1 H1 v fp fps1 E1 l r n =>
    q F1 H1 σ fps1 v fp (w.ok E1) s l r n⟩
/-- e, dropped -/
theorem run_dropE {B : Type} {e : Expr} (v : B) (enc : B → Cell) (G1 : B → Env) (oF : B → Out) (P : B → Prop) (h : EV X K G e (enc v) (G1 v)) (hp : P v) (k : ∀ y, P y → Run X K W sv rest (G1 y) (oF y)) (hs : swapsWith e none pos.line X.env = pure false := by rfl) (ho : oF v = o := by rfl) : Run X K W sv (.Expr e pos :: rest) G o := ho ▸ fun F H σ fps D E s q =>
  ⟨tSeq (tDrop (wpE (one X) e)) (wpSs X rest), pss_cons (ps_expr pe_w1 hs) pss_wp, h F H σ fps _ E fun F1 H1 u fq fps1 E1 l r n =>
    k v hp F1 H1 σ fps1 D E1 s (q.le ⟨l.fr, l.hp, l.nw, fun a z => l.ow a (.inr z)⟩)⟩
/-- an own thing is told, its name with it; the others kept -/
theorem run_retOK {i : Nat} {x : Str} {c : Cell} {pos' : Pos} {Gr : Env} (hg : G[i]? = some (some c)) (hw : Weak (G.set i none) Gr) (hN : X.N[i]? = some x := by rfl) (hv : Vis X.env.scope x := by first | exact Or.inl rfl | exact Or.inr (Or.inl rfl))
    (hd : (x == ("__debug__" : Str)) = false := by decide) (hcd : (x == ("__classdict__" : Str)) = false := by decide) : Run X K W sv (.Return (some (.Name x pos')) pos :: rest) G (.rt c (some Gr)) := fun F H σ fps D E s q => by
  obtain ⟨v, h1, h2⟩ := E.ent i _ hg
  have hlt : i < G.length := (List.getElem?_eq_some_iff.mp hg).1
  have E1 : EnvOk K F H σ (G.set i none) (put fps i []) := by
    refine ⟨E.sub, by rw [List.length_set]; exact E.len, fun j c' h => ?_, fun j a h => ?_, fun j k a h h' => ?_, E.tab⟩
    · by_cases hj : j = i
      · subst hj; rw [List.getElem?_set_self hlt] at h; cases h
      · rw [List.getElem?_set_ne (fun z => hj z.symm)] at h
        rw [put_ne hj]; exact E.ent j c' h
    · by_cases hj : j = i
      · subst hj; rw [put_same] at h; cases h
      · rw [put_ne hj] at h; exact E.own j a h
    · by_cases hj : j = i
      · subst hj; rw [put_same] at h; cases h
      · by_cases hk : k = i
        · subst hk; rw [put_same] at h'; cases h'
        · rw [put_ne hj] at h; rw [put_ne hk] at h'; exact E.dis j k a h h'
  have ow : ∀ a, Owns (put fps i []) a → Owns fps a := fun a ⟨j, h⟩ => by
    by_cases hj : j = i
    · subst hj; rw [put_same] at h; cases h
    · rw [put_ne hj] at h; exact ⟨j, h⟩
  refine ⟨tSeq (tRet (tVar i)) tNever, pss_cons (ps_ret (pe_var hN hv hd hcd)) pss_never, v, h1, ?_⟩
  refine q F H σ _ v (fps i) (hw.ok E1) s ⟨Ex.refl F, ExO.refl _, fun _ _ z _ => z, fun a z => .inl (z.elim (fun y => ⟨i, y⟩) (ow a))⟩ h2 fun a ha => ⟨(E.own i a ha).1, (E.own i a ha).2, fun ⟨j, z⟩ => ?_⟩
  by_cases hj : j = i
  · subst hj; rw [put_same] at z; cases z
  · rw [put_ne hj] at z; exact hj (E.dis j i a z ha)

/-! ### fields of own objects are set -/
def putC (f : Str) (c : Cell) : List (Str × Cell) → List (Str × Cell)
  | [] => [(f, c)]
  | (g, x) :: r => if g = f then (g, c) :: r else (g, x) :: putC f c r
theorem repCF_put {F H : Hp} {f : Str} {v : V} {c : Cell} {fq : List Addr} (r : RepC K F H fq v c) : ∀ {fp : List Addr} {vs : List (Str × V)} {fs : List (Str × Cell)}, RepCF K F H fp vs fs → (∀ a ∈ fq, a ∉ fp) → ∃ fp2, RepCF K F H fp2 (putF f v vs) (putC f c fs) ∧ ∀ a ∈ fp2, a ∈ fp ∨ a ∈ fq
  | _, _, _, .nil, _ => ⟨fq ++ [], .cons r .nil (fun a _ z => nomatch z), fun a h => .inr (by simpa using h)⟩
  | _, _, _, .cons (k := g) (fp := fpa) (fq := fqa) r0 rs d, dj => by
    unfold putF putC
    by_cases e : g = f
    · rw [if_pos e, if_pos e]
      exact ⟨fq ++ fqa, .cons r rs fun a ha z => dj a ha (List.mem_append_right _ z), fun a h => (List.mem_append.mp h).elim .inr fun z => .inl (List.mem_append_right _ z)⟩
    · rw [if_neg e, if_neg e]
      obtain ⟨fp2, h1, h2⟩ := repCF_put r rs fun a ha z => dj a ha (List.mem_append_right _ z)
      refine ⟨fpa ++ fp2, .cons r0 h1 fun a ha z => ?_, fun a h => ?_⟩
      · rcases h2 a z with y | y
        · exact d a ha y
        · exact dj a y (List.mem_append_left _ ha)
      · rcases List.mem_append.mp h with z | z
        · exact .inl (List.mem_append_left _ z)
        · exact (h2 a z).imp (List.mem_append_right _) id
/-- t.f = e, t an own object -/
theorem run_setF {B : Type} {i : Nat} {π : List Nat} {t e : Expr} {f C : Str} {ap : Pos} (fs : B → List (Str × Cell)) (v : B) (enc : B → Cell) (G1 Gk : B → Env) (oF : B → Out) (P : B → Prop) (hK : X.K = K) (T : ClF K C) (n : NoAttr K (He.ga K C) f) (h : EV X K G e (enc v) (G1 v)) (hp : P v)
    (ht : EP (one X) K (G1 v) t i π) (hg : atG (G1 v) i π = some (.ob C (fs v))) (hG : ∀ y, updG (G1 y) i π (.ob C (putC f (enc y) (fs y))) = Gk y) (hl : Nat.ble (fs v).length 999 = true) (k : ∀ y, P y → Run X K W sv rest (Gk y) (oF y))
    (hs : swapsWith e (some (.Attribute t f ap)) pos.line X.env = pure false := by rfl) (ho : oF v = o := by rfl) : Run X K W sv (.Assign [.Attribute t f ap] e pos :: rest) G o := ho ▸ fun F H σ fps D Eo s q => by
  refine ⟨tSeq (sFld K (wpE (one X) t) (wpE (one X) e) f) (wpSs X rest), pss_cons (hK ▸ ps_fld pe_w1 pe_w1 hs) pss_wp, h F H σ fps _ Eo fun F1 H1 y fq fps1 E1 l r1 n1 => ?_⟩
  refine ht F1 H1 σ fps1 _ E1 fun F2 H2 u up l2 => ?_
  have E2 := E1.up up
  have r2 : RepC K F2 H2 fq y (enc v) := r1.mono up.fr fun a _ o z m => up.hp.h z m
  have n2 : ∀ a ∈ fq, F2 a = none ∧ H2 a ≠ none ∧ ¬ Owns fps1 a := fun a ha => ⟨up.nw a (n1 a ha).1 (n1 a ha).2.1, (fun z => (n1 a ha).2.1 (up.hp.free z)), (n1 a ha).2.2⟩
  obtain ⟨u', fpc, fpsA, l', rc, EA, ow, ds⟩ := E2.take hg
  obtain rfl := l2.fun l'
  obtain ⟨p, dx, fqo, vs, rfl, e1, hp', rf, np⟩ := rc.ob_inv
  subst e1
  have ownp : Owns fps1 p := (ow p).mpr (.inr (by simp))
  have Fp : F2 p = none := (E2.ownF ownp).1
  have ne : ∀ a ∈ fq, a ≠ p := fun a ha z => (n2 a ha).2.2 (z ▸ ownp)
  have kp : ∀ a, a ≠ p → ∀ o, H2 a = some o → (upd H2 p (.ins (He.ga K C) dx (putF f y vs))) a = some o := fun a ha o z => by rw [upd_ne ha]; exact z
  have r3 : RepC K F2 (upd H2 p (.ins (He.ga K C) dx (putF f y vs))) fq y (enc v) := r2.mono (Ex.refl _) fun a ha o z _ => kp a (ne a ha) o z
  have rf3 : RepCF K F2 (upd H2 p (.ins (He.ga K C) dx (putF f y vs))) fqo vs (fs v) := rf.mono (Ex.refl _) fun a ha o z _ => kp a (fun e => np (e ▸ ha)) o z
  obtain ⟨fp2, rp, sub⟩ := repCF_put (f := f) r3 rf3 fun a ha z => (n2 a ha).2.2 ((ow a).mpr (.inr (List.mem_cons_of_mem _ z)))
  have EB : EnvOk K F2 (upd H2 p (.ins (He.ga K C) dx (putF f y vs))) σ (updG (G1 v) i π (.hl (.ref p))) fpsA := EA.keep (Ex.refl _) (fun a ob z => by
      have hne : a ≠ p := fun e => by subst e; rw [Fp] at z; cases z
      rcases E2.sub a ob z with b | ⟨b, ob', b'⟩
      · exact .inl (by rw [upd_ne hne]; exact b)
      · exact .inr ⟨b, ob', by rw [upd_ne hne]; exact b'⟩) ((ExO.refl (O := fun a => a = p) H2).upd hp' rfl rfl) (fun a ha (e : a = p) => ds p (by simp) (e ▸ ha)) (fun a ha => (EA.ownF ha).1) fun P h => (EA.tab P h).1
  have fresh : ∀ a ∈ fp2, F2 a = none ∧ (upd H2 p (.ins (He.ga K C) dx (putF f y vs))) a ≠ none ∧ ¬ Owns fpsA a ∧ a ≠ p := fun a ha => by
    rcases sub a ha with z | z
    · have o1 : Owns fps1 a := (ow a).mpr (.inr (List.mem_cons_of_mem _ z))
      have hne : a ≠ p := fun e => np (e ▸ z)
      refine ⟨(E2.ownF o1).1, ?_, ds a (List.mem_cons_of_mem _ z), hne⟩
      rw [upd_ne hne]; exact (E2.ownF o1).2
    · refine ⟨(n2 a z).1, ?_, fun y' => (n2 a z).2.2 ((ow a).mpr (.inl y')), ne a z⟩
      rw [upd_ne (ne a z)]; exact (n2 a z).2.1
  obtain ⟨fps3, E3, o3⟩ := EB.give (c := .ob C (putC f (enc v) (fs v))) (fpc := p :: fp2) (atG_upd hg) (.ob upd_same rp fun z => (fresh p z).2.2.2 rfl) (fun a ha => by
      rcases List.mem_cons.mp ha with z | z
      · subst z; exact ⟨Fp, by rw [upd_same]; simp⟩
      · exact ⟨(fresh a z).1, (fresh a z).2.1⟩) (fun a ha => by
      rcases List.mem_cons.mp ha with z | z
      · subst z; exact ds a (by simp)
      · exact (fresh a z).2.2.1)
  rw [updG_upd, hG v] at E3
  have hlen : vs.length < 1000 := by
    have := repCF_len rf
    have h9 := Nat.le_of_ble_eq_true hl
    omega
  refine ⟨p, _, dx, vs, rfl, hp', T.cls, n, hlen, k v hp F2 _ σ fps3 D E3 s (q.le (l.trans ⟨up.fr, ((up.hp.imp fun _ z => z.elim).upd hp' rfl (.inr ownp)), fun a hn z z' => up.nw a z z', fun a z => ?_⟩))⟩
  · left
    rcases (o3 a).mp z with y' | y'
    · exact .inr ((ow a).mpr (.inl y'))
    · rcases List.mem_cons.mp y' with y' | y'
      · subst y'; exact .inr ownp
      · rcases sub a y' with y' | y'
        · exact .inr ((ow a).mpr (.inr (List.mem_cons_of_mem _ y')))
        · exact .inl y'
end
end Vs

/-! Methods asked of a class, tests that change own things, setdefault. -/
namespace Vs
open PySem PySem.Spec L2
section
variable {X : Cx} {K : PySem.W.Frag} {W : WX} {G : Env} {P : Program} {w : World} {mg : Str → Option Value} {base : Heap}
/-- C.m(e, ..), C an own class -/
theorem pe_clsm {CX : CXT} {x m : Str} {C f : Addr} {mc : Value} {k : Nat} {fd : FuncData} {ps : List Str} {sp : Sp} {E : XK} {e : Expr} {es : List Expr} {t : TA} {p apos pos' : Pos} {pl : Sem Bool} (hg : Gl X x) (hm : X.mg x = some (.ref C)) (r : ClRd X.K C mc) (c : PySem.W.findCls X.K (.ref C) mc m = some (.val (.ref f))) (kp : PySem.W.keepIn X.K (.ref f) = true)
    (F : FnOk X.prog X.w X.K X.mg X.base CX k f fd ps sp) (hr : Room k X.A) (hb : Binds X.K fd ps []) (hx : Passes CX X E) (ha : PA X (e :: es) t) (hdb : (x == ("__debug__" : Str)) = false := by decide)
    (hst : starEach (e :: es) X.env = (false, eval e X.env) :: starEach es X.env := by rfl) (hpl : (backTo pos' (starEach es X.env)).any (·.1) = false := by rfl)
    (ht : eval (.Call (.Attribute (.Name x p) m apos) (e :: es) [] pos') X.env = (do
      let ov ← eval (.Name x p) X.env
      standAt apos.atName
      let (f, first) ← holding [ov] (getMethod ov m pl)
      callWith pos' f first (backTo pos' (starEach (e :: es) X.env)) (backToKw pos' (keywordEach [] X.env))) := by rfl) :
    PE X (.Call (.Attribute (.Name x p) m apos) (e :: es) [] pos') (tCall sp [] E t) := by
  refine ⟨fun pins s σ H Q I h => ?_⟩
  refine PySem.W.methodCall_KW (pl := pl) (thn ((pe_glob hg hm (show RelV (.ref C) (.ref C) from rfl) hdb).run pins s σ H (fun v H1 => v = .ref C ∧ tCall sp [] E t σ H1 Q) I ⟨rfl, h⟩) fun u s1 ⟨y, H1, I1, rx, ex, q⟩ => ?_) ht
  subst ex
  obtain rfl : u = Value.ref C := rx
  refine PySem.W.method_cls I1.kIn r.ga (PySem.W.cls_value I1.kIn r.rd c (handed_of (v := V.ref f) rfl) ?_)
  refine PySem.W.callWith_K (h₀ := X.base) I1.ok.mod.kin kp (thn (ha.run pos' pins _ σ H1 _ (I1.tok (s1.toks + 1)) q) fun us s2 ⟨vs, H2, I2, rv, q2⟩ => ⟨I2.kIn, ?_⟩) hst hpl
  exact run_fn F hr hb .nil hx I2 rv q2
/-- C.m(e, ..), own things lent -/
theorem ev_clsm {B m : Str} {k n : Nat} {r : List Cell → Sum Cell Xc → List Cell → Prop} {p apos cpos : Pos} {es : List Expr} {e : Expr} {as : List Ag} {c : Cell} {outs : List Cell} {G' : Env} {pl : Sem Bool} (S : SupF K B m) (C : ∃ fd ps, FnOk P w K mg base (L2.CX P w) k (He.ma K (He.ga K B) m) fd ps (spB K n r) ∧ Binds K fd ps []) (gB : mg B = some (.ref (He.ga K B)))
    (hX : Of (one X) P w K mg base) (hr : Room k X.A) (hgB : Gl X B) (ha : EAB X K G (e :: es) as) (ok : AgOk G as) (hn : as.length = n) (hR : r (as.map Ag.cell) (.inl c) outs) (hG : outG G as outs = G')
    (hBd : (B == ("__debug__" : Str)) = false := by decide) (hs0 : starEach (e :: es) X.env = (false, eval e X.env) :: starEach es X.env := by rfl) (hpl : (backTo cpos (starEach es X.env)).any (·.1) = false := by rfl)
    (ht : eval (.Call (.Attribute (.Name B p) m apos) (e :: es) [] cpos) X.env = (do
      let ov ← eval (.Name B p) X.env
      standAt apos.atName
      let (f, first) ← holding [ov] (getMethod ov m pl)
      callWith cpos f first (backTo cpos (starEach (e :: es) X.env)) (backToKw cpos (keywordEach [] X.env))) := by rfl) : EV X K G (.Call (.Attribute (.Name B p) m apos) (e :: es) [] cpos) c G' := fun F H σ fps Q Eo q => by
  subst hG
  obtain ⟨fd, ps, h1, h3⟩ := C
  refine ⟨tCall (spB K n r) [] E0 (wpA (one X) (e :: es)), fun j => ?_, ha F H σ fps _ Eo fun F1 H1 vs u ra => ?_⟩
  · obtain ⟨e1, e2, e3, e4, e5⟩ := hX j
    subst e1 e2 e3 e4 e5
    exact pe_clsm (pl := pl) hgB gB S.rd S.at_ S.kp h1 hr h3 passL pa_w1 hBd hs0 hpl ht
  · rw [List.append_nil]
    exact lent_call Eo u ra ok hn hR q
end
section
variable {I : Type} {X : I → Cx} {K : PySem.W.Frag} {G : Env} {P : Program} {w : World} {mg : Str → Option Value} {base : Heap}
/-- C(e, ..) of data, a new own object -/
theorem en_make {C : Str} {k n : Nat} {r : List Cell → Sum Cell Xc → List Cell → Prop} {p pos : Pos} {e : Expr} {es : List Expr} {ds : List Dt} {fs : List (Str × Cell)} {outs : List Cell} (I : CalleeBI P w K mg base C k n r) (M : Mk K (He.ga K C) (He.ma K (He.ga K C) "__init__")) (gC : mg C = some (.ref (He.ga K C)))
    (hX : Of X P w K mg base) (hr : ∀ j, Room (k + 1) (X j).A) (hg : ∀ j, Gl (X j) C)
    (ha : EA X K G (e :: es) ds) (hn : ds.length + 1 = n) (hR : r (.ob C [] :: ds.map .fz) (.inl (.fz .non)) (.ob C fs :: outs)) (hdb : (C == ("__debug__" : Str)) = false := by decide) (he : ∀ j, starEach (e :: es) (X j).env = (false, eval e (X j).env) :: starEach es (X j).env := by intro _; rfl)
    (hpl : ∀ j, (backTo pos (starEach es (X j).env)).any (·.1) = false := by intro _; rfl) : EN X K G (.Call (.Name C p) (e :: es) [] pos) (.ob C fs) := fun F H σ fps Q Eo q => by
  obtain ⟨fd, ps, h1, h3⟩ := I.ex
  refine ⟨tMake (He.ga K C) (spB K n r) [] E0 (wpA X (e :: es)), fun j => ?_, ha F H σ fps _ Eo fun F1 H1 ws u rl => ?_⟩
  · obtain ⟨e1, e2, e3, e4, e5⟩ := hX j
    subst e1 e2 e3 e4 e5
    exact pe_make M h1 (hr j) (hg j) gC h3 .nil passL (pa_wp j) hdb (he j) (hpl j)
  · intro x dx nx ndx hne
    rw [List.append_nil]
    have fx : F1 x = none := u.sb.none nx
    have old : ∀ b o, H1 b = some o → (upd (upd H1 dx (.own x)) x (.ins (He.ga K C) dx [])) b = some o := fun b o z => by
      have n1 : b ≠ x := fun y => by rw [y, nx] at z; cases z
      have n2 : b ≠ dx := fun y => by rw [y, ndx] at z; cases z
      rw [upd_ne n1, upd_ne n2]; exact z
    have s1 : Sub F1 (upd (upd H1 dx (.own x)) x (.ins (He.ga K C) dx [])) := fun a o z => by
      rcases u.sb a o z with y | ⟨b, ob, y⟩
      · exact .inl (old _ _ y)
      · exact .inr ⟨b, ob, old _ _ y⟩
    have u2 : Up F1 H1 F1 (upd (upd H1 dx (.own x)) x (.ins (He.ga K C) dx [])) := ⟨Ex.refl _, ExO.of old, fun _ z _ => z, s1⟩
    have u12 := u.trans u2
    have hx : (upd (upd H1 dx (.own x)) x (.ins (He.ga K C) dx [])) x ≠ none := by rw [upd_same]; simp
    refine ⟨F1, .ob C [] :: ds.map .fz, .inl (.fz .non), .ob C fs :: outs, [x] ++ [], ⟨s1, ((Eo.up u).up u2).tab⟩, .cons (.ob upd_same .nil (by simp)) (RepCL.ofL rl) (fun a _ hb => nomatch hb), fun b hb => ?_, by rw [List.length_cons, List.length_map]; exact hn, hR, fun F' H' v fq fp' l s rc ro n1 n2 => ?_⟩
    · obtain rfl : b = x := by simpa using hb
      exact ⟨fx, hx⟩
    · obtain ⟨rfl, rn⟩ := rc.there
      cases rn
      refine ⟨rfl, ?_⟩
      cases ro with
      | cons r1 r2 dj =>
        rename_i fpa fqa
        have hxn : ∀ a, H a ≠ none → a ∉ [x] ++ [] := fun a z y => by
          obtain rfl : a = x := by simpa using y
          exact z (u.hp.free nx)
        refine q F' H' (.ref x) fpa ⟨u.fr.trans l.fr, ExO.comp u12.hp l.hp (fun a z y => hxn a z y), fun a z z' => ?_, s⟩ r1 fun a ha => ⟨?_, (n2 a (List.mem_append_left _ ha)).1, (n2 a (List.mem_append_left _ ha)).2⟩
        · exact l.nw a (hxn a z') (u12.nw a z z') (u12.hp.n a (fun y => y) z')
        · rcases l.ow a (.inr (List.mem_append_left _ ha)) with y | y
          · obtain rfl : a = x := by simpa using y
            exact u.hp.free nx
          · exact u12.hp.free y
end
abbrev Zf (d : Dt) : Option Cell := some (.fz d)
end Vs

/-! Statements for printed proofs, with the cells behind written out. -/
namespace Vs
open PySem PySem.Spec L2
section
variable {X : Cx} {K : PySem.W.Frag} {W : WX} {sv : Sv} {G : Env} {rest : List Stmt} {o : Out} {pos : Pos}
theorem run_freezeQ {ss : List Stmt} {i : Nat} {π : List Nat} {c : Cell} {d : Dt} {G' : Env} (hg : atG G i π = some c) (hd : c.data = some d) (hG : updG G i π (.fz d) = G') (k : Run X K W sv ss G' o) : Run X K W sv ss G o := run_freezeP hg hd (hG ▸ k)
theorem run_asgQ {i : Nat} {x : Str} {e : Expr} {pos' : Pos} {c : Cell} {Gk : Env} (h : EV X K G e c G) (hN : X.N.Nodup) (hG : G.set i (some c) = Gk) (k : Run X K W sv rest Gk o)
    (hi : X.N[i]? = some x := by rfl) (hx : Loc X.env.scope x := by first | exact Or.inl rfl | exact Or.inr rfl) (hl : Nat.blt i G.length = true := by rfl) (hv : memN sv.ks i = false := by rfl)
    (hs : swapsWith e (some (.Name x pos')) pos.line X.env = pure false := by rfl) (hf : X.fn x = true ∨ X.env.scope.names.lookup x = some .local := by first | exact .inl rfl | exact .inr rfl | assumption) :
    Run X K W sv (.Assign [.Name x pos'] e pos :: rest) G o := run_asgE (B := Unit) () (fun _ => c) (fun _ => G) (fun _ => Gk) (fun _ => o) (fun _ => True) h trivial hN (fun _ => hG) (fun _ _ => k) hi hx hl hv hs hf rfl
/-- x += e, whole numbers -/
theorem run_augI {i : Nat} {x : Str} {e : Expr} {pos' : Pos} {a b : Int} {Gk : Env} (hg : G[i]? = some (some (.fz (.int a)))) (h : EX (one X) K G e (.int b)) (hN : X.N.Nodup) (hG : G.set i (some (.fz (.int (a + b)))) = Gk) (k : Run X K W sv rest Gk o)
    (hi : X.N[i]? = some x := by rfl) (hx : Loc X.env.scope x := by first | exact Or.inl rfl | exact Or.inr rfl) (hl : Nat.blt i G.length = true := by rfl) (hv : memN sv.ks i = false := by rfl)
    (hf : X.fn x = true ∨ X.env.scope.names.lookup x = some .local := by first | exact .inl rfl | exact .inr rfl | assumption) :
    Run X K W sv (.AugAssign (.Name x pos') .Add e pos :: rest) G o := fun F H σ fps D E s q => by
  obtain ⟨v, h1, r⟩ := E.ent i _ hg
  obtain ⟨_, r⟩ := r.there
  cases r
  refine ⟨tSeq (tAug i (wpE (one X) e) (ipI fun i j => i + j)) (wpSs X rest), pss_cons (ps_aug hN hi hx pe_w1 ip_add hf) pss_wp, _, h1, h F H σ fps _ E fun F1 H1 v2 u r2 => ?_⟩
  cases r2
  refine ⟨a, b, rfl, rfl, ?_⟩
  have E2 := (E.up u).set (i := i) (v := .int (a + b)) (fp := []) (Nat.blt_eq.mp hl) (.fz (.int (a + b))) (fun a ha => nomatch ha) fun a ha => nomatch ha
  rw [hG] at E2
  exact k F1 H1 _ _ D E2 (s.set hv) (q.le (u.leSet fun a ha => nomatch ha))
end
/-! ### dict.clear, list.extend -/
def rClrD : V → List V → Hp → VK → Prop := fun v ws H Q => ∃ (p : Addr) (ps : List (Key × V)), v = .ref p ∧ ws = [] ∧ H p = some (.dK ps) ∧ Q .non (upd H p (.dK []))
theorem clrD_ok {X : Cx} : MtR X "dict.clear" rClrD := by
  rintro pins s σ H x vs v us Q I rx rv ⟨p, ps, hx, hv, hp, hq⟩
  cases hx; cases hv
  cases (show v = Value.ref p from rx)
  cases rv.zero
  exact d_clear I hp fun t J => ⟨.non, _, J, rfl, hq⟩
def rExtendT : V → List V → Hp → VK → Prop := fun x vs H Q => ∃ l b xs zs, x = .ref l ∧ vs = [.ref b] ∧ H l = some (.lst xs) ∧ H b = some (.tup zs) ∧ xs.length + zs.length ≤ sizeLine ∧ Q .non (upd H l (.lst (xs ++ zs)))
set_option maxRecDepth 8000 in
theorem list_extend_tup (l : Addr) (items : Array Value) (n : Nat) (b : Addr) (items2 : Array Value) (n2 : Nat) (od : Option Addr) (osl : Array (Option Value)) (hs0 : ¬(!items.isEmpty && Builtin.List.listTooLong (items.size + items2.size)) = true) (hs1 : items.size ≤ sizeLine) (hs2 : items.size + items2.size ≤ sizeLine + 1) :
    Meets (Builtin.«list.extend» ⟨[.ref l, .ref b], []⟩) (fun _ R s => s.heap.get? l = some { cls := .type "list", dict := none, data := .seq items n, slots := #[] } ∧ s.heap.get? b = some { cls := .type "tuple", dict := od, data := .seq items2 n2, slots := osl } ∧ R (.ok (.ret Value.none)) { s with heap := s.heap.update l (Obj.mapSeq fun x => x ++ items2), toks := s.toks }) :=
  .of_wp fun prog w A R s h => by
    obtain ⟨hp, g, d, tk, os⟩ := s; obtain ⟨hl, hb, h⟩ := h; have f1 := AutoSeq1.idx_int; have f2 := AutoSeq1.sub_tuple_tuple; have f3 := AutoSeq1.sub_list_list; have f4 := AutoSeq1.sub_tuple_list; have f5 := AutoSeq1.sub_list_tuple
    have hz' : (items ++ items2).size ≤ sizeLine + 1 := by rw [Array.size_append]; exact hs2
    wp_walk using (wpAny_updateSeq hl rfl (hz := hs1) (_hz' := hz')), AutoSeq1.wpAny_loadPart' hl, AutoSeq1.wpAny_loadPart' hb; exact ⟨_, rfl, h⟩
theorem mt_extendT {X : Cx} : MtM X "list.extend" rExtendT := by
  intro pins s σ H x vs v us Q I rx rv h
  obtain ⟨l, b, xs, zs, rfl, rfl, hH, hB, hz, q⟩ := h
  cases rx
  obtain ⟨u, rfl, ru⟩ := rv.one
  cases ru
  obtain ⟨z, its, n, r, hl, e⟩ := I.lstM hH
  obtain ⟨z2, its2, r2, ⟨oc, od, oda, osl⟩, e2, hc2, n2, hd2⟩ := I.hok b _ hB
  dsimp only at hc2 hd2
  subst hc2 hd2
  have hl2 := Paired.length r2
  have hsz : its.toArray.size + its2.toArray.size ≤ sizeLine := by rw [List.size_toArray, List.size_toArray]; omega
  have hlong : ¬ (!its.toArray.isEmpty && Builtin.List.listTooLong (its.toArray.size + its2.toArray.size)) = true := by
    rw [notLongL hsz, Bool.and_false]
    exact Bool.false_ne_true
  refine call_meets PySem.F.slot_list_extend ⟨_, e, rfl⟩ PySem.F.entry_list_extend (PySem.F.args_list_extend_2 _ _)
    (list_extend_tup l its.toArray n b its2.toArray n2 od osl hlong (by rw [List.size_toArray]; omega) (by omega)) ⟨e, e2, ?_⟩
  refine ⟨.non, _, I.lset (its' := its ++ its2) hH e (by simp) (r.append r2) ?_, rfl, q⟩
  rw [List.length_append]
  omega
section
variable {X : Cx} {K : PySem.W.Frag} {W : WX} {sv : Sv} {G : Env} {rest : List Stmt} {o : Out} {pos : Pos}
/-- d.clear(), d an own dict -/
theorem run_clearD {i : Nat} {π : List Nat} {t : Expr} {apos cpos : Pos} {ds : List (Key × Dt)} {G' : Env} (hK : X.K = K) (ht : EP (one X) K G t i π) (hg : atG G i π = some (.od ds)) (hG : updG G i π (.od []) = G') (k : Run X K W sv rest G' o)
    (hbase : attributeBase t "clear" X.env (eval t X.env) = eval t X.env := by rfl) (hline : (apos.endLine == cpos.line) = true := by rfl)
    (hsw : swapsWith (.Call (.Attribute t "clear" apos) [] [] cpos) none pos.line X.env = pure false := by rfl) :
    Run X K W sv (.Expr (.Call (.Attribute t "clear" apos) [] [] cpos) pos :: rest) G o := fun F H σ fps D Eo s q => by
  subst hG
  refine ⟨tSeq (tDrop (tBM0 X.K "dict" rClrD (wpE (one X) t))) (wpSs X rest), pss_cons (ps_expr (pe_bm0 PySem.F.plainAttrs_dict PySem.F.slot_dict_clear PySem.F.type_dict_clear clrD_ok pe_w1 hbase hline) hsw) pss_wp, ht F H σ fps _ Eo fun F0 H0 v u0 l0 => ?_⟩
  obtain ⟨fpc0, r0, _⟩ := (Eo.up u0).loc hg l0
  obtain ⟨p, vs, rfl, _, h2, l, r, nd⟩ := r0.od_inv
  obtain ⟨fps2, E2, le2⟩ := (Eo.up u0).set1 (fq := []) hg l0 (fun fpc r a => by obtain ⟨p', _, e1, e2, _⟩ := r.od_inv; cases e1; rw [e2]; simp) (.dK []) (.od []) (.od upd_same (Nat.zero_le _) .nil List.nodup_nil)
  exact ⟨.inr (.inr (.inl ⟨rfl, .inl ⟨vs, h2⟩⟩)), p, vs, rfl, rfl, h2, k F0 _ σ fps2 D E2 s (q.le (u0.le.trans le2))⟩
/-- xs.extend(e), e a list / a tuple -/
theorem run_extend {A : Type} {i : Nat} {π : List Nat} {t e : Expr} {apos cpos : Pos} {xs ys : List A} {G' : Env} (f : A → Dt) (hK : X.K = K) (ht : EP (one X) K G t i π) (hg : atG G i π = some (.ol (xs.map f))) (h : EX (one X) K G e (.lst (ys.map f))) (hn : xs.length + ys.length ≤ big)
    (hG : updG G i π (.ol ((xs ++ ys).map f)) = G') (k : Run X K W sv rest G' o)
    (hbase : attributeBase t "extend" X.env (eval t X.env) = eval t X.env := by rfl)
    (hfew : ((backTo cpos (starEach [e] X.env)).all (fun x => !x.1) && (backToKw cpos (keywordEach [] X.env)).all (fun x => x.1.isSome) && decide (([e] : List Expr).length + ([] : List Keyword).length + (if ([] : List Keyword).isEmpty then 0 else 1) < 30)) = true := by rfl)
    (hline : (apos.endLine == cpos.line) = true := by rfl) (hs : starEach [e] X.env = [(false, eval e X.env)] := by rfl) (hplain : (backTo cpos (starEach ([] : List Expr) X.env)).any (·.1) = false := by rfl)
    (hsw : swapsWith (.Call (.Attribute t "extend" apos) [e] [] cpos) none pos.line X.env = pure false := by rfl) :
    Run X K W sv (.Expr (.Call (.Attribute t "extend" apos) [e] [] cpos) pos :: rest) G o := fun F H σ fps D Eo s q => by
  subst hG
  refine ⟨tSeq (tDrop (tBM X.K "list" rExtend (wpE (one X) t) (tCons (wpE (one X) e) tNil))) (wpSs X rest), pss_cons (ps_expr (pe_bm PySem.F.plainAttrs_list PySem.F.slot_list_extend PySem.F.type_list_extend mt_extend pe_w1 (pa_cons pe_w1 pa_nil hs) hbase hfew hline hs hplain) hsw) pss_wp, ht F H σ fps _ Eo fun F0 H0 v u0 l0 => ?_⟩
  obtain ⟨fpc0, r0, _⟩ := (Eo.up u0).loc hg l0
  obtain ⟨p, vs, rfl, _, h2, l, r⟩ := r0.ol_inv
  refine ⟨.inl ⟨rfl, vs, SqL.of h2⟩, h F0 H0 σ fps _ (Eo.up u0) fun F1 H1 w u r1 => ?_⟩
  have E1 := (Eo.up u0).up u
  cases r1 with
  | lst hb lb rb =>
    rename_i b ws
    have hlen : vs.length + ws.length ≤ big := by rw [r.len, rb.len, List.length_map, List.length_map]; exact hn
    refine ⟨p, b, vs, ws, rfl, rfl, u.hp.h h2, u.sb.lst hb, Nat.le_trans hlen big_line, ?_⟩
    obtain ⟨fps2, E2, le2⟩ := E1.set1 (fq := []) hg (l0.mono u.hp) (fun fpc r a => by obtain ⟨p', _, e1, e2, _⟩ := r.ol_inv; cases e1; rw [e2]; simp) (.lst (vs ++ ws)) (.ol ((xs ++ ys).map f)) (.ol upd_same (by rw [List.length_append]; exact hlen) (by rw [List.map_append]; exact (r.mono u.fr).append rb))
    exact k F1 _ σ fps2 D E2 s (q.le ((u0.trans u).le.trans le2))
theorem run_extendT {A : Type} {i : Nat} {π : List Nat} {t e : Expr} {apos cpos : Pos} {xs ys : List A} {G' : Env} (f : A → Dt) (hK : X.K = K) (ht : EP (one X) K G t i π) (hg : atG G i π = some (.ol (xs.map f))) (h : EX (one X) K G e (.tup (ys.map f))) (hn : xs.length + ys.length ≤ big)
    (hG : updG G i π (.ol ((xs ++ ys).map f)) = G') (k : Run X K W sv rest G' o)
    (hbase : attributeBase t "extend" X.env (eval t X.env) = eval t X.env := by rfl)
    (hfew : ((backTo cpos (starEach [e] X.env)).all (fun x => !x.1) && (backToKw cpos (keywordEach [] X.env)).all (fun x => x.1.isSome) && decide (([e] : List Expr).length + ([] : List Keyword).length + (if ([] : List Keyword).isEmpty then 0 else 1) < 30)) = true := by rfl)
    (hline : (apos.endLine == cpos.line) = true := by rfl) (hs : starEach [e] X.env = [(false, eval e X.env)] := by rfl) (hplain : (backTo cpos (starEach ([] : List Expr) X.env)).any (·.1) = false := by rfl)
    (hsw : swapsWith (.Call (.Attribute t "extend" apos) [e] [] cpos) none pos.line X.env = pure false := by rfl) :
    Run X K W sv (.Expr (.Call (.Attribute t "extend" apos) [e] [] cpos) pos :: rest) G o := fun F H σ fps D Eo s q => by
  subst hG
  refine ⟨tSeq (tDrop (tBM X.K "list" rExtendT (wpE (one X) t) (tCons (wpE (one X) e) tNil))) (wpSs X rest), pss_cons (ps_expr (pe_bm PySem.F.plainAttrs_list PySem.F.slot_list_extend PySem.F.type_list_extend mt_extendT pe_w1 (pa_cons pe_w1 pa_nil hs) hbase hfew hline hs hplain) hsw) pss_wp, ht F H σ fps _ Eo fun F0 H0 v u0 l0 => ?_⟩
  obtain ⟨fpc0, r0, _⟩ := (Eo.up u0).loc hg l0
  obtain ⟨p, vs, rfl, _, h2, l, r⟩ := r0.ol_inv
  refine ⟨.inl ⟨rfl, vs, SqL.of h2⟩, h F0 H0 σ fps _ (Eo.up u0) fun F1 H1 w u r1 => ?_⟩
  have E1 := (Eo.up u0).up u
  cases r1 with
  | tup hb lb rb =>
    rename_i b ws
    have hlen : vs.length + ws.length ≤ big := by rw [r.len, rb.len, List.length_map, List.length_map]; exact hn
    refine ⟨p, b, vs, ws, rfl, rfl, u.hp.h h2, u.sb.tup hb, Nat.le_trans hlen big_line, ?_⟩
    obtain ⟨fps2, E2, le2⟩ := E1.set1 (fq := []) hg (l0.mono u.hp) (fun fpc r a => by obtain ⟨p', _, e1, e2, _⟩ := r.ol_inv; cases e1; rw [e2]; simp) (.lst (vs ++ ws)) (.ol ((xs ++ ys).map f)) (.ol upd_same (by rw [List.length_append]; exact hlen) (by rw [List.map_append]; exact (r.mono u.fr).append rb))
    exact k F1 _ σ fps2 D E2 s (q.le ((u0.trans u).le.trans le2))
end
end Vs

/-! Plain laws that many laws' mathematics share. -/
namespace Vs
open PySem PySem.Spec L2 TL PySem.StrLaws
theorem mod_nn (x : Int) {n : Int} (h : 0 < n) : 0 ≤ x % n ∧ x % n < n := ⟨Int.emod_nonneg x (by omega), Int.emod_lt_of_pos x h⟩
theorem smallS {n : Nat} (h : n ≤ 900000) : n ≤ bigS := h
theorem smallL {n : Nat} (h : n ≤ 1000000) : n ≤ big := h
theorem sum_len {B : Nat} : ∀ {xs : List Str}, (∀ x ∈ xs, x.length ≤ B) → (xs.map (·.length)).sum ≤ B * xs.length
  | [], _ => by simp
  | x :: xs, h => by
    have h1 := h x (by simp)
    have h2 := sum_len (xs := xs) fun y hy => h y (List.mem_cons_of_mem _ hy)
    simp only [List.map_cons, List.sum_cons, List.length_cons, Nat.mul_succ]
    omega
theorem joinOk_of {B : Nat} {s : Str} {xs : List Str} (h : ∀ x ∈ xs, x.length ≤ B) (hb : B * xs.length + xs.length * s.length ≤ 900000) : joinOk s xs := by
  unfold joinOk
  have := sum_len h
  show _ ≤ 900000
  omega
theorem join_le {B : Nat} {s : Str} {xs : List Str} (h : ∀ x ∈ xs, x.length ≤ B) : (Txt.join s xs).length ≤ B * xs.length + xs.length * s.length := by
  rw [join_eq, len_tl, tl_join]
  obtain ⟨h1, _⟩ := joinL_parts (tl s) (xs.map tl)
  rw [List.length_map] at h1
  have h2 := sum_len h
  have e : ((xs.map tl).map List.length).sum = (xs.map (·.length)).sum := by
    rw [List.map_map]
    congr 1
  rw [e] at h1
  have e2 : s.length = (tl s).length := len_tl s
  rw [e2]
  omega
theorem join_nil (s : Str) : Txt.join s [] = Str.ofString "" := by rw [join_eq]; exact ext_tl (by rw [tl_join, tl_nil]; rfl)
theorem join_ne {s x : Str} {xs : List Str} (h : 1 ≤ x.length) : (Txt.join s (x :: xs) == Str.ofString "") = false := by
  refine beq_eq_false_iff_ne.mpr fun e => ?_
  have e2 := congrArg tl e
  rw [join_eq, tl_join, tl_nil] at e2
  rw [len_tl] at h
  cases xs with
  | nil =>
    have : tl x = [] := e2
    rw [this] at h; cases h
  | cons y ys =>
    have e3 : tl x ++ (tl s ++ joinL (tl s) ((y :: ys).map tl)) = [] := e2
    have := (List.append_eq_nil_iff.mp e3).1
    rw [this] at h; cases h
theorem cut1 {A : Type} (a : A) (l : List A) : cut (a :: l) (some (1 : Int)) none = l := by
  show ((a :: l).drop (min 1 (l.length + 1))).take (l.length + 1 - min 1 (l.length + 1)) = l
  rw [Nat.min_eq_left (by omega)]
  simp
theorem it0 {A : Type} [Inhabited A] (x : A) (l : List A) : itm (x :: l) (0 : Int) = x := by
  rw [itm_nn (by decide) (by rw [List.length_cons]; omega)]
  rfl
theorem in0 {A : Type} (x : A) (l : List A) : inI (x :: l) (0 : Int) = true := inI_nn (by decide) (by rw [List.length_cons]; omega)
theorem lenS (s : String) {n : Nat} (h : (s.toList).length = n) : (Str.ofString s).length = n := ch_len s h
theorem stT_le {p : Str × Str × List Str} (h : St p) : 1 ≤ (stT p).length ∧ (stT p).length ≤ 28 := by
  obtain ⟨s, n, ps⟩ := p
  have h1 := sd_len h.sd
  have h2 := bare_len h.wd h.two h.pl
  obtain ⟨c, l, e, _⟩ := bare_head (ps := ps) h.wd
  have h3 : (bare n ps).length = l.length + 1 := by rw [len_tl, e]; rfl
  unfold stT
  rw [len_app]
  show 1 ≤ s.length + (bare n ps).length ∧ s.length + (bare n ps).length ≤ 28
  have h2' : (bare n ps).length ≤ 27 := h2
  have h1' : s.length ≤ 1 := h1
  omega
end Vs

/-! list(reversed(..)), dicts compared, counted, listed. -/
namespace RT
open PySem PySem.Spec PyProof.Rows L2
section
variable {prog : Program} {w : World} {A : Around} {E : Value → Shared → Prop} {s : Shared}
theorem lists_rev {it l S : Addr} {items : Array Value} {R : Result → Shared → Prop} {c₀ : Nat} (hh : A.handled = none) (hit : s.heap.IsRevIter it l ((items.size : Int) - 1)) (hl : s.heap.IsList l items) (hne : l ≠ it) (hSi : S ≠ it) (hSl : S ≠ l) (hn : items.size ≤ sizeLine)
    (hS : s.heap.get? S = some { cls := .type "list", data := .seq #[] c₀ })
    (hR : ∀ h' tk acc' c', (∀ b o, b ≠ S → b ≠ it → s.heap.get? b = some o → h'.get? b = some o) → h'.get? S = some { cls := .type "list", dict := none, data := .seq acc' c', slots := #[] } → ItemsOf (fun i v => items[items.size - 1 - i]? = some v) acc' items.size → R (.ok (.ret .none)) { s with heap := h', toks := tk }) :
    wpAny (model prog w) A.in1 (Builtin.List.listExtendWith (.ref S) (.ref it) .none)
      (fun fin s' => match fin with | .done f => R (.ok f) s' | .again c' => c'.quiet = true ∧ codeAny (model prog w) A c' R s') (fun e s' => R (.error e) s') s := by
  have W := (Walks.listRev (prog := prog) (w := w) (A := A.in1) hh it l hne items).toS
  have hSf : S ∉ [it, l] := by simp only [List.mem_cons, List.not_mem_nil, or_false, not_or]; exact ⟨hSi, hSl⟩
  have hT : s.TypeIs (.ref it) "list_reverseiterator" := hit.typeIs
  have h1 : Builtin.List.listSameRef (.ref S) (.ref it) = false := by simp [Builtin.List.listSameRef, hSi]
  unfold Builtin.List.listExtendWith
  refine wpAny_bind (wpAny_typeOf hT ?_)
  rw [if_neg (by rw [h1]; decide)]
  refine wpAny_bind (wpAny_pyIter_revIter hit ?_)
  refine wpAny_bind (wpAny_holding ?_)
  unfold Builtin.List.listLengthHint
  refine wpAny_bind (wpAny_specialOf hT nolen_lri ?_)
  show wpAny _ A.in1 (specialOf (Value.ref it) (Str.ofString "__length_hint__") >>= _) _ _ _
  refine wpAny_bind (wpAny_specialOf hT hint_lri ?_)
  generalize hid : ("list_reverseiterator.__length_hint__" : String) = id0
  wp_delta
  rw [show splitId id0 = some ("list_reverseiterator", "__length_hint__") from by subst hid; decide +kernel]
  subst hid
  refine wpAny_bind (wpAny_isInstance (b := true) hT (by rw [isSubtype_type]; kernel_rfl) ?_)
  refine wpAny_pure ?_
  rw [if_neg (by decide)]
  have e0 : ((items.size : Nat) : Int) - 1 - ((0 : Nat) : Int) = (items.size : Int) - 1 := by omega
  refine wpAny_pure ⟨plainId_quiet F.plain_extend_loop _, codeAny_extend_loopS W hn _ hSf _ items.size 0 _ _ _ rfl (Nat.zero_le _) ⟨Nat.zero_le _, by rw [e0]; exact hit, hl⟩ hS (ItemsOf.nil _) fun s' acc' c' hm hS' hacc => ?_⟩
  rw [Moved.eq_with hm]
  refine hR s'.heap s'.toks acc' c' (fun b o hb hb2 e => hm.heap b o (fun hmem => ?_) e) hS' hacc
  rcases List.mem_cons.mp hmem with e' | hmem
  · exact hb e'
  · exact hb2 (List.mem_singleton.mp hmem)
theorem call_list_rev {it l : Addr} {items : Array Value} {Q : Value → Shared → Prop} (hh : A.handled = none) (hit : s.heap.IsRevIter it l ((items.size : Int) - 1)) (hl : s.heap.IsList l items) (hne : l ≠ it) (hn : items.size ≤ sizeLine)
    (hQ : ∀ (h' : Heap) (tk : Nat) (acc : Array Value) (c' : Nat), (∀ b o, b ≠ it → s.heap.get? b = some o → h'.get? b = some o) → h'.get? s.heap.objs.size = some { cls := .type "list", dict := none, data := .seq acc c', slots := #[] } → ItemsOf (fun i v => items[items.size - 1 - i]? = some v) acc items.size →
      Q (.ref s.heap.objs.size) { s with heap := h', toks := tk }) :
    wpAny (model prog w) A (call (.type "list") [.ref it]) Q E s := by
  refine callType_codes (Q₁ := fun obj s₁ => obj = .ref s.heap.objs.size ∧ s₁ = { s with heap := s.heap.push { cls := .type "list", data := .seq #[] } }) PySem.F.called_list (PySem.F.typeCall_list_1 _) PySem.F.entry_list_init
    (code_list_new _ ⟨rfl, rfl⟩) fun obj s₁ h₁ => ?_
  obtain ⟨rfl, rfl⟩ := h₁
  have hS : (s.heap.push { cls := .type "list", data := .seq #[] }).get? s.heap.objs.size = some { cls := .type "list", data := .seq #[] } := Heap.get?_push_size _ rfl
  obtain ⟨oi, hoi, _⟩ := id hit
  obtain ⟨ol, hol, _⟩ := id hl
  have hSi : s.heap.objs.size ≠ it := Nat.ne_of_gt (Heap.lt_size hoi)
  have hSl : s.heap.objs.size ≠ l := Nat.ne_of_gt (Heap.lt_size hol)
  refine ⟨⟨_, hS, rfl⟩, PySem.F.args_list_init_2 _ _, ?_⟩
  show wpAny _ _ (do let old ← Builtin.List.listItems (.ref s.heap.objs.size); Builtin.List.listUpdate (.ref s.heap.objs.size) (fun _ => #[]); letGo old.toList.reverse; Builtin.List.listExtendWith (.ref s.heap.objs.size) (.ref it) .none) _ _ _
  refine wpAny_bind ?_
  unfold Builtin.List.listItems
  refine wpAny_bind (wpAny_seqItems hS rfl (wpAny_pure ?_))
  show wpAny _ _ (updateSeq s.heap.objs.size (fun _ => #[]) >>= fun _ => letGo (#[] : Array Value).toList.reverse >>= fun _ => Builtin.List.listExtendWith (.ref s.heap.objs.size) (.ref it) .none) _ _ _
  refine wpAny_bind (wpAny_updateSeq hS rfl ?_)
  have hS₂ := Heap.get?_update_self (Obj.mapSeq (fun _ => (#[] : Array Value))) hS rfl
  have oth : ∀ b o, b ≠ s.heap.objs.size → s.heap.get? b = some o → ((s.heap.push { cls := .type "list", data := .seq #[] }).update s.heap.objs.size (Obj.mapSeq (fun _ => (#[] : Array Value)))).get? b = some o :=
    fun b o hb e => (Heap.get?_update_other _ _ (Ne.symm hb)).trans (Heap.get?_push_of_some _ e)
  refine wpAny_bind (wpAny_letGo ?_)
  refine lists_rev hh (hit.at fun o e => oth it o (Ne.symm hSi) e) (by obtain ⟨o, ho, r⟩ := hl; exact ⟨o, oth l o (Ne.symm hSl) ho, r⟩) hne hSi hSl hn hS₂ fun h' tk acc' c' hk hS' hacc => ?_
  exact ⟨rfl, hQ h' tk acc' c' (fun b o hb e => hk b o (Nat.ne_of_lt (Heap.lt_size e)) hb (oth b o (Nat.ne_of_lt (Heap.lt_size e)) e)) hS' hacc⟩
end
def tListRev (K : PySem.W.Frag) (te : TE) : TE := fun σ H Q => te σ H fun v H1 => ∃ (a : Addr) (xs : List V), v = .ref a ∧ SqL K H1 a xs ∧ ∀ q, H1 q = none → Q (.ref q) (upd H1 q (.lst xs.reverse))
section
variable {X : Cx}
theorem pe_listRev {e : Expr} {te : TE} {p p2 pos pos2 : Pos} (hc : X.calm = true) (hg : Gl X "list") (hm : X.mg "list" = none) (hg2 : Gl X "reversed") (hm2 : X.mg "reversed" = none) (he : PE X e te)
    (hs : starEach [e] X.env = (false, eval e X.env) :: starEach [] X.env := by rfl)
    (hs2 : starEach [.Call (.Name "reversed" p2) [e] [] pos2] X.env = (false, eval (.Call (.Name "reversed" p2) [e] [] pos2) X.env) :: starEach [] X.env := by rfl) :
    PE X (.Call (.Name "list" p) [.Call (.Name "reversed" p2) [e] [] pos2] [] pos) (tListRev X.K te) := by
  refine ⟨fun pins s σ H Q I h => ?_⟩
  refine Call_ (ld_blt I hg hm (u := .type "list") (by decide +kernel) (PyProof.Rows.callWith_type1 (args_cons (Call_ (ld_blt I hg2 hm2 PyProof.Rows.boot_reversed (PyProof.Rows.callWith_type1 (args_cons (thn (he.run pins s σ H _ I h) fun u s1 ⟨v, H1, I1, r1, q1⟩ => args_nil ?_) hs) hs rfl))) hs2) hs2 rfl))
  obtain ⟨a, xs, ev, hq, q⟩ := q1
  subst ev
  obtain rfl : u = Value.ref a := r1
  obtain ⟨its, rv, p', hz⟩ := I1.list hq
  refine call_reversed_list p'.isList (args_nil ?_)
  have k0 : ∀ b o, s1.heap.get? b = some o → (s1.heap.push (revObj a ((its.toArray.size : Int) - 1))).get? b = some o := fun b o e => Heap.get?_push_of_some _ e
  have I2 : Inv X pins σ H1 { s1 with heap := s1.heap.push (revObj a ((its.toArray.size : Int) - 1)) } := I1.kept (t' := s1.toks) k0
  obtain ⟨f0, f1, f2, f3, f4, f5⟩ := I1.fpOk (H' := H1) (b := s1.heap.objs.size) (Nat.le_refl _) (I1.hok.fresh (Nat.le_refl _))
  have hl := p'.isList
  obtain ⟨ol, hol, _⟩ := id hl
  have hne : a ≠ s1.heap.objs.size := Nat.ne_of_lt (Heap.lt_size hol)
  have hn : its.toArray.size ≤ sizeLine := by rw [List.size_toArray, ← rv.length]; exact hz
  refine call_list_rev (s := { s1 with heap := s1.heap.push (revObj a ((its.toArray.size : Int) - 1)) }) (I1.ok.hd hc) ⟨_, Heap.get?_push_size _ rfl, rfl, rfl⟩ (hl.push _) hne hn fun h' tk acc c' hk hS' hi => ?_
  have n0 : H1 s1.heap.objs.size = none := I1.hok.fresh (Nat.le_refl _)
  have hsz : (s1.heap.push (revObj a ((its.toArray.size : Int) - 1))).objs.size = s1.heap.objs.size + 1 := by simp [Heap.push]
  have n1 : H1 (s1.heap.push (revObj a ((its.toArray.size : Int) - 1))).objs.size = none := I2.hok.fresh (Nat.le_refl _)
  have hne2 : s1.heap.objs.size ≠ (s1.heap.push (revObj a ((its.toArray.size : Int) - 1))).objs.size := by rw [hsz]; omega
  have I3 := I2.laid (t' := tk) (a := (s1.heap.push (revObj a ((its.toArray.size : Int) - 1))).objs.size) (o := .lst xs.reverse) (h' := (s1.heap.push (revObj a ((its.toArray.size : Int) - 1))).push { cls := .type "list", dict := none, data := .seq acc c', slots := #[] }) (fun c o e => Heap.get?_push_of_some _ e) (Nat.le_refl _)
    (show ObjOk X.prog X.w _ _ _ (.lst xs.reverse) from ⟨by rw [List.length_reverse]; exact hz, acc.toList, c', vals_rev rv hi, by rw [Array.toArray_toList]; exact Heap.get?_push_size _ rfl⟩)
  obtain ⟨g0, g1, g2, g3, g4, g5⟩ := I1.fpOk (H' := upd H1 (s1.heap.push (revObj a ((its.toArray.size : Int) - 1))).objs.size (.lst xs.reverse)) (b := s1.heap.objs.size) (Nat.le_refl _) (by rw [upd_ne hne2]; exact n0)
  have I4 := I3.turned (h' := h') (t' := tk) (it := s1.heap.objs.size) (fun b o hb e => by
    by_cases hbs : b = (s1.heap.push (revObj a ((its.toArray.size : Int) - 1))).objs.size
    · subst hbs
      rw [Heap.get?_push_size _ rfl] at e
      cases e
      exact hS'
    · refine hk b o hb ?_
      rw [Heap.get?_push_ne _ _ _ hbs] at e
      exact e) g0 g1 g3 g4 g5
  exact ⟨.ref _, _, I4, rfl, q _ n1⟩
end
end RT

/-! Dicts: counted, listed, compared, walked. list(reversed(..)). -/
namespace Vs
open PySem PySem.Spec L2
theorem RepL.reverse {K : PySem.W.Frag} {F : Hp} : ∀ {vs : List V} {ds : List Dt}, RepL K F vs ds → RepL K F vs.reverse ds.reverse
  | _, _, .nil => .nil
  | _, _, .cons h r => by
    rw [List.reverse_cons, List.reverse_cons]
    exact r.reverse.append (.cons h .nil)
theorem call_lenDR {X : Cx} : CallR X (.builtin "len") (fun xs H Q => ∃ a kvs, xs = [V.ref a] ∧ Rd H a (.dK kvs) ∧ Q (.int kvs.length) H) := by
  intro pins s σ H xs us Q I r h
  obtain ⟨a, kvs, rfl, ha, q⟩ := h
  obtain ⟨u, rfl, ru⟩ := vals1 r
  cases ru
  exact d_len I ha fun t s' I' => ⟨.int kvs.length, H, I', ⟨t, rfl⟩, q⟩
section
variable {I : Type} {X : I → Cx} {K : PySem.W.Frag} {G : Env}
/-- list(reversed(e)) -/
theorem en_listRev {e : Expr} {p p2 pos pos2 : Pos} {ds : List Dt} (hK : ∀ j, (X j).K = K) (hc : ∀ j, (X j).calm = true) (h : ES X K G e false ds) (hg : ∀ j, Gl (X j) "list") (hm : ∀ j, (X j).mg "list" = none) (hg2 : ∀ j, Gl (X j) "reversed") (hm2 : ∀ j, (X j).mg "reversed" = none)
    (hs : ∀ j, starEach [e] (X j).env = (false, eval e (X j).env) :: starEach [] (X j).env := by intro _; rfl)
    (hs2 : ∀ j, starEach [.Call (.Name "reversed" p2) [e] [] pos2] (X j).env = (false, eval (.Call (.Name "reversed" p2) [e] [] pos2) (X j).env) :: starEach [] (X j).env := by intro _; rfl) : EN X K G (.Call (.Name "list" p) [.Call (.Name "reversed" p2) [e] [] pos2] [] pos) (.ol ds.reverse) := fun F H σ fps Q k q =>
  ⟨RT.tListRev K (wpE X e), fun j => hK j ▸ RT.pe_listRev (hc j) (hg j) (hm j) (hg2 j) (hm2 j) (pe_wp j) (hs j) (hs2 j), h F H σ fps _ k fun F1 H1 p vs u r l rl => by
    refine ⟨p, vs, rfl, by simpa using r, fun D hD => ?_⟩
    have n0 : H D = none := u.hp.free hD
    refine q F1 (upd H1 D (.lst vs.reverse)) (.ref D) [D] (u.trans (Up.layH u.sb hD)) (.ol upd_same (by rw [List.length_reverse]; exact l) rl.reverse) fun a ha => ?_
    obtain rfl : a = D := by simpa using ha
    exact ⟨n0, u.sb.none hD, by rw [upd_same]; simp⟩⟩
theorem x_listRev {A : Type} {e : Expr} {p p2 pos pos2 : Pos} {xs : List A} (f : A → Dt) (hK : ∀ j, (X j).K = K) (hc : ∀ j, (X j).calm = true) (h : ES X K G e false (xs.map f)) (hg : ∀ j, Gl (X j) "list") (hm : ∀ j, (X j).mg "list" = none) (hg2 : ∀ j, Gl (X j) "reversed") (hm2 : ∀ j, (X j).mg "reversed" = none)
    (hs : ∀ j, starEach [e] (X j).env = (false, eval e (X j).env) :: starEach [] (X j).env := by intro _; rfl)
    (hs2 : ∀ j, starEach [.Call (.Name "reversed" p2) [e] [] pos2] (X j).env = (false, eval (.Call (.Name "reversed" p2) [e] [] pos2) (X j).env) :: starEach [] (X j).env := by intro _; rfl) : EN X K G (.Call (.Name "list" p) [.Call (.Name "reversed" p2) [e] [] pos2] [] pos) (.ol (xs.reverse.map f)) := by
  rw [List.map_reverse]
  exact en_listRev hK hc h hg hm hg2 hm2 hs hs2
/-- len(d) -/
theorem x_lenD {κ A : Type} {g : κ → Key} {f : A → Dt} {e : Expr} {p pos : Pos} {kvs : List (κ × A)} (h : ED X K G e (encK g f kvs)) (hg : ∀ j, Gl (X j) "len") (hm : ∀ j, (X j).mg "len" = none)
    (he : ∀ j, starEach [e] (X j).env = [(false, eval e (X j).env)] := by intro _; rfl) : EX X K G (.Call (.Name "len" p) [e] [] pos) (.int kvs.length) := fun F H σ fps Q k q =>
  ⟨tCB (fun xs H Q => ∃ a kvs, xs = [V.ref a] ∧ Rd H a (.dK kvs) ∧ Q (.int kvs.length) H) (tCons (wpE X e) tNil), fun j => pe_callB call_lenDR (hg j) (hm j) PySem.boot_len (pa_cons (pe_wp j) pa_nil (he j)) (by decide) (by decide) (he j) rfl, h F H σ fps _ k fun F1 H1 p vs u r l rl nd =>
    ⟨p, vs, rfl, r, by rw [repK_len rl]; exact q F1 H1 _ u (.int _)⟩⟩
/-- list(d) -/
theorem kOk_Rep {K : PySem.W.Frag} {F : Hp} {k : Key} (h : kOk k = true) : Rep K F (kV k) (keyD k) := by
  cases k with
  | inl i => exact .int i
  | inr s => exact .str s h
theorem repK_keysL {κ A : Type} {g : κ → Key} {f : A → Dt} {F : Hp} : ∀ {kvs : List (κ × A)} {vs : List (Key × V)}, RepK K F vs (encK g f kvs) → RepL K F (vs.map fun kv => kV kv.1) (kvs.map fun z => keyD (g z.1))
  | [], _, .nil => .nil
  | z :: r, _, .cons o h t => .cons (kOk_Rep o) (repK_keysL t)
theorem repK_valsL {κ A : Type} {g : κ → Key} {f : A → Dt} {F : Hp} : ∀ {kvs : List (κ × A)} {vs : List (Key × V)}, RepK K F vs (encK g f kvs) → RepL K F (vs.map (·.2)) (kvs.map fun z => f z.2)
  | [], _, .nil => .nil
  | z :: r, _, .cons o h t => .cons h (repK_valsL t)
theorem en_listD {κ A : Type} {g : κ → Key} {f : A → Dt} {e : Expr} {p pos : Pos} {kvs : List (κ × A)} (hc : ∀ j, (X j).calm = true) (h : ED X K G e (encK g f kvs)) (hg : ∀ j, Gl (X j) "list") (hm : ∀ j, (X j).mg "list" = none)
    (he : ∀ j, starEach [e] (X j).env = [(false, eval e (X j).env)] := by intro _; rfl) : EN X K G (.Call (.Name "list" p) [e] [] pos) (.ol (kvs.map fun z => keyD (g z.1))) := fun F H σ fps Q k q =>
  ⟨tCB (fun xs H Q => ∃ (a : Addr) (kvs : List (Key × V)), xs = [.ref a] ∧ Rd H a (.dK kvs) ∧ ∀ p, H p = none → Q (.ref p) (upd H p (.lst (kvs.map fun kv => kV kv.1)))) (tCons (wpE X e) tNil), fun j => pe_callTy (call_listD (hc j)) (hg j) (hm j) (by decide +kernel) (pa_cons (pe_wp j) pa_nil (he j)) (by decide) (by decide) (he j) rfl, h F H σ fps _ k fun F1 H1 p vs u r l rl nd => by
    refine ⟨p, vs, rfl, r, fun D hD => ?_⟩
    have n0 : H D = none := u.hp.free hD
    refine q F1 (upd H1 D (.lst (vs.map fun kv => kV kv.1))) (.ref D) [D] (u.trans (Up.layH u.sb hD)) (.ol upd_same (by rw [List.length_map]; exact l) (repK_keysL rl)) fun a ha => ?_
    obtain rfl : a = D := by simpa using ha
    exact ⟨n0, u.sb.none hD, by rw [upd_same]; simp⟩⟩
end

/-! ### dicts compared -/
def dAll {κ A : Type} [DecidableEq κ] [BEq A] (ys : List (κ × A)) : List (κ × A) → Bool
  | [] => true
  | p :: r => match gets ys p.1 with
    | none => false
    | some y => (p.2 == y) && dAll ys r
/-- the same keys with the same data, in whatever order -/
def dEq {κ A : Type} [DecidableEq κ] [BEq A] (xs ys : List (κ × A)) : Bool := (xs.length == ys.length) && dAll ys xs
section
variable {X : Cx} {pins : List (Addr × Obj)} {σ : L2.St} {H F : Hp} {s : Shared} {κ A : Type} [DecidableEq κ] [BEq A] {g : κ → Key} {f : A → Dt} {n : Nat}
theorem hitsG (I : Inv X pins σ H s) (sb : Sub F H) (hgi : ∀ a b, g a = g b → a = b) (q : EqT f n) (hn : n ≤ 60) (hu : X.A.units + 64 < cLine) {ys : List (κ × A)} {ws : List (Key × V)} {wb : List (Key × Value)} (ry : RepK X.K F ws (encK g f ys)) (rb : KV ws wb) :
    ∀ {xs : List (κ × A)} {vs : List (Key × V)} {va : List (Key × Value)}, RepK X.K F vs (encK g f xs) → KV vs va → PySem.W.KeqHits X.A.in1 s wb va (dAll ys xs) := by
  intro xs
  induction xs with
  | nil =>
    intro vs va r k
    cases r
    cases k
    exact .nil
  | cons p r ih =>
    intro vs va rx k
    cases rx with
    | cons o h t =>
      rename_i v vs
      unfold KV at k
      cases k with
      | cons hk kt =>
        rename_i b vb
        obtain ⟨k1, k2⟩ := hk
        obtain ⟨bk, bv⟩ := b
        dsimp only at k1 k2
        subst k1
        have rv := rb.val (g p.1)
        unfold dAll
        rcases repK_get hgi p.1 ry with ⟨e1, e2⟩ | ⟨a, w, e1, e2, e3⟩
        · rw [e1]
          rw [e2] at rv
          refine .miss ?_
          cases z : valueAt wb (g p.1) with
          | none => rfl
          | some y => rw [z] at rv; exact rv.elim
        · rw [e1]
          rw [e2] at rv
          obtain ⟨y, hy, ry'⟩ := rv.some_of
          refine .hit hy ?_ (ih t kt)
          obtain ⟨as, r1⟩ := Dp.reads I _ _ _ (h.dp sb (q.fl _)) k2
          obtain ⟨bs, r2⟩ := Dp.reads I _ _ _ (e3.dp sb (q.fl _)) ry'
          have := SeqAt.eqAt_reads _ _ X.A.in1 s _ _ as bs r1 r2 (h.lay (q.fl _)) (e3.lay (q.fl _)) (by
            have d1 := q.dp p.2
            have h2 : min (f p.2).py.depth (f a).py.depth ≤ (f p.2).py.depth := Nat.min_le_left _ _
            show X.A.units + 1 + _ < cLine
            omega)
          rw [q.eq] at this
          exact this
theorem op_eqG (K : PySem.W.Frag) (hK : X.K = K) (hgi : ∀ a b, g a = g b → a = b) (q : EqT f n) (hn : n ≤ 60) (hu : X.A.units + 64 < cLine) : OpR X (compareOp .Eq) (fun x y H Q => ∃ (F : Hp) (a b : Addr) (vs ws : List (Key × V)) (xs ys : List (κ × A)), x = .ref a ∧ y = .ref b ∧ Sub F H ∧ Rd H a (.dK vs) ∧ Rd H b (.dK ws) ∧ RepK K F vs (encK g f xs) ∧ RepK K F ws (encK g f ys) ∧ Q (.bl (dEq xs ys)) H) := by
  intro pins s σ H x y v u Q I rx ry h
  obtain ⟨F, a, b, vs, ws, xs, ys, rfl, rfl, sb, ea, eb, r1, r2, qq⟩ := h
  subst hK
  obtain rfl : v = Value.ref a := rx
  obtain rfl : u = Value.ref b := ry
  obtain ⟨_, ya, va, ra, da⟩ := dk_rd I.hok ea
  obtain ⟨_, yb, vb, rb, db⟩ := dk_rd I.hok eb
  refine PySem.W.keq_eq (knd := mixKind X.prog X.w) (r := dAll ys xs) ya yb da db (by omega) (fun _ => hitsG I sb hgi q hn hu r2 rb r1 ra) (fin_bl I qq ?_)
  have l1 : va.length = xs.length := by rw [← ra.length, repK_len r1]
  have l2 : vb.length = ys.length := by rw [← rb.length, repK_len r2]
  rw [l1, l2]; rfl
theorem op_neG (K : PySem.W.Frag) (hK : X.K = K) (hgi : ∀ a b, g a = g b → a = b) (q : EqT f n) (hn : n ≤ 60) (hu : X.A.units + 64 < cLine) : OpR X (compareOp .NotEq) (fun x y H Q => ∃ (F : Hp) (a b : Addr) (vs ws : List (Key × V)) (xs ys : List (κ × A)), x = .ref a ∧ y = .ref b ∧ Sub F H ∧ Rd H a (.dK vs) ∧ Rd H b (.dK ws) ∧ RepK K F vs (encK g f xs) ∧ RepK K F ws (encK g f ys) ∧ Q (.bl (!dEq xs ys)) H) := by
  intro pins s σ H x y v u Q I rx ry h
  obtain ⟨F, a, b, vs, ws, xs, ys, rfl, rfl, sb, ea, eb, r1, r2, qq⟩ := h
  subst hK
  obtain rfl : v = Value.ref a := rx
  obtain rfl : u = Value.ref b := ry
  obtain ⟨_, ya, va, ra, da⟩ := dk_rd I.hok ea
  obtain ⟨_, yb, vb, rb, db⟩ := dk_rd I.hok eb
  refine PySem.W.keq_ne (knd := mixKind X.prog X.w) (r := dAll ys xs) ya yb da db (by omega) (fun _ => hitsG I sb hgi q hn hu r2 rb r1 ra) (fin_bl I qq ?_)
  have l1 : va.length = xs.length := by rw [← ra.length, repK_len r1]
  have l2 : vb.length = ys.length := by rw [← rb.length, repK_len r2]
  rw [l1, l2]; rfl
end
section
variable {I : Type} {X : I → Cx} {K : PySem.W.Frag} {G : Env} {κ A : Type} [DecidableEq κ] [BEq A] {g : κ → Key} {f : A → Dt} {n : Nat} {a b : Expr} {pos : Pos} {xs ys : List (κ × A)}
theorem x_eqG (hgi : ∀ a b, g a = g b → a = b) (q : EqT f n) (hn : n ≤ 60) (hK : ∀ j, (X j).K = K) (hu : ∀ j, (X j).A.units + 64 < cLine) (ha : ED X K G a (encK g f xs)) (hb : ED X K G b (encK g f ys)) (hm : behindInMarks .Eq b = false := by rfl) : EX X K G (.Compare a [.Eq] [b] pos) (.bl (dEq xs ys)) := fun F H σ fps Q E k =>
  ⟨tOp _ (wpE X a) (wpE X b), fun j => pe_cmpR (op_eqG K (hK j) hgi q hn (hu j)) (pe_wp j) (pe_wp j) hm, ha F H σ fps _ E fun F1 H1 p vs u r l rl _ => hb F1 H1 σ fps _ (E.up u) fun F2 H2 p2 ws u2 r2 l2 rl2 _ =>
    ⟨F2, p, p2, vs, ws, xs, ys, rfl, rfl, u2.sb, u2.rd r, r2, rl.mono u2.fr, rl2, k F2 H2 _ (u.trans u2) (.bl _)⟩⟩
theorem x_neG (hgi : ∀ a b, g a = g b → a = b) (q : EqT f n) (hn : n ≤ 60) (hK : ∀ j, (X j).K = K) (hu : ∀ j, (X j).A.units + 64 < cLine) (ha : ED X K G a (encK g f xs)) (hb : ED X K G b (encK g f ys)) (hm : behindInMarks .NotEq b = false := by rfl) : EX X K G (.Compare a [.NotEq] [b] pos) (.bl (!dEq xs ys)) := fun F H σ fps Q E k =>
  ⟨tOp _ (wpE X a) (wpE X b), fun j => pe_cmpR (op_neG K (hK j) hgi q hn (hu j)) (pe_wp j) (pe_wp j) hm, ha F H σ fps _ E fun F1 H1 p vs u r l rl _ => hb F1 H1 σ fps _ (E.up u) fun F2 H2 p2 ws u2 r2 l2 rl2 _ =>
    ⟨F2, p, p2, vs, ws, xs, ys, rfl, rfl, u2.sb, u2.rd r, r2, rl.mono u2.fr, rl2, k F2 H2 _ (u.trans u2) (.bl _)⟩⟩
theorem b_eqG (hgi : ∀ a b, g a = g b → a = b) (q : EqT f n) (hn : n ≤ 60) (hK : ∀ j, (X j).K = K) (hu : ∀ j, (X j).A.units + 64 < cLine) (ha : ED X K G a (encK g f xs)) (hb : ED X K G b (encK g f ys)) (hm : behindInMarks .Eq b = false := by rfl) : EB X K G (.Compare a [.Eq] [b] pos) (dEq xs ys) := fun F H σ fps Q E k =>
  ⟨tTest (tOp _ (wpE X a) (wpE X b)), fun j => pt_cmpR (op_eqG K (hK j) hgi q hn (hu j)) (pe_wp j) (pe_wp j) hm, ha F H σ fps _ E fun F1 H1 p vs u r l rl _ => hb F1 H1 σ fps _ (E.up u) fun F2 H2 p2 ws u2 r2 l2 rl2 _ =>
    ⟨F2, p, p2, vs, ws, xs, ys, rfl, rfl, u2.sb, u2.rd r, r2, rl.mono u2.fr, rl2, _, rfl, k F2 H2 (u.trans u2)⟩⟩
theorem b_neG (hgi : ∀ a b, g a = g b → a = b) (q : EqT f n) (hn : n ≤ 60) (hK : ∀ j, (X j).K = K) (hu : ∀ j, (X j).A.units + 64 < cLine) (ha : ED X K G a (encK g f xs)) (hb : ED X K G b (encK g f ys)) (hm : behindInMarks .NotEq b = false := by rfl) : EB X K G (.Compare a [.NotEq] [b] pos) (!dEq xs ys) := fun F H σ fps Q E k =>
  ⟨tTest (tOp _ (wpE X a) (wpE X b)), fun j => pt_cmpR (op_neG K (hK j) hgi q hn (hu j)) (pe_wp j) (pe_wp j) hm, ha F H σ fps _ E fun F1 H1 p vs u r l rl _ => hb F1 H1 σ fps _ (E.up u) fun F2 H2 p2 ws u2 r2 l2 rl2 _ =>
    ⟨F2, p, p2, vs, ws, xs, ys, rfl, rfl, u2.sb, u2.rd r, r2, rl.mono u2.fr, rl2, _, rfl, k F2 H2 (u.trans u2)⟩⟩
end
end Vs

/-! A list whose very items are known (Cell.fl): listed anew, compared with its like. -/
namespace Vs
open PySem PySem.Spec L2
theorem rep_fr {K : PySem.W.Frag} {F : Hp} {v : V} {d : Dt} (r : Rep K F v d) : flatB v = true ∨ ∃ a, v = .ref a := by
  cases r with
  | non => exact .inl rfl
  | bl _ => exact .inl rfl
  | int _ => exact .inl rfl
  | str _ _ => exact .inl rfl
  | lst _ _ _ => exact .inr ⟨_, rfl⟩
  | tup _ _ _ => exact .inr ⟨_, rfl⟩
  | dic _ _ _ _ => exact .inr ⟨_, rfl⟩
  | dit _ _ _ _ => exact .inr ⟨_, rfl⟩
  | ins _ _ => exact .inr ⟨_, rfl⟩
  | scr _ _ _ => exact .inr ⟨_, rfl⟩
theorem repL_fr {K : PySem.W.Frag} {F : Hp} : ∀ {vs : List V} {ds : List Dt}, RepL K F vs ds → ∀ v ∈ vs, flatB v = true ∨ ∃ a, v = .ref a
  | _, _, .nil, _, h => nomatch h
  | _, _, .cons r rs, v, h => by
    rcases List.mem_cons.mp h with rfl | h
    · exact rep_fr r
    · exact repL_fr rs v h
theorem vals_same {A : Around} {s : Shared} : ∀ {vs : List V} {us ws : List Value}, Vals vs us → Vals vs ws → (∀ v ∈ vs, flatB v = true ∨ ∃ a, v = .ref a) → ∀ j (h1 : j < us.length) (h2 : j < ws.length), SeqAt.EqAt A s us[j] ws[j] true := by
  intro vs
  induction vs with
  | nil => intro us ws r1 r2 _ j h1 _; cases r1; exact absurd h1 (Nat.not_lt_zero j)
  | cons v vs ih =>
    intro us ws r1 r2 hv j h1 h2
    cases r1 with
    | cons a1 b1 =>
      cases r2 with
      | cons a2 b2 =>
        cases j with
        | zero =>
          rcases hv v (by simp) with f | ⟨a, rfl⟩
          · exact eqAt_same a1 a2 f
          · cases (show _ = Value.ref a from a1)
            cases (show _ = Value.ref a from a2)
            exact SeqAt.EqAt.same _
        | succ j => exact ih b1 b2 (fun w hw => hv w (List.mem_cons_of_mem _ hw)) j (Nat.lt_of_succ_lt_succ h1) (Nat.lt_of_succ_lt_succ h2)
theorem op_neSame {X : Cx} (K : PySem.W.Frag) (hK : X.K = K) (hu : X.A.units + 64 < cLine) : OpR X (compareOp .NotEq) (fun x y H Q => ∃ a b vs, x = .ref a ∧ y = .ref b ∧ SqL K H a vs ∧ SqL K H b vs ∧ (∀ v ∈ vs, flatB v = true ∨ ∃ a, v = .ref a) ∧ Q (.bl false) H) := by
  intro pins s σ H x y v u Q I rx ry h
  obtain ⟨a, b, vs, rfl, rfl, ea, eb, hv, q⟩ := h
  subst hK
  obtain rfl : v = Value.ref a := rx
  obtain rfl : u = Value.ref b := ry
  obtain ⟨us, r1, p1, _⟩ := I.list (a := a) (xs := vs) ea
  obtain ⟨ws, r2, p2, _⟩ := I.list (a := b) (xs := vs) eb
  have hsz : us.toArray.size = ws.toArray.size := by
    rw [List.size_toArray, List.size_toArray, ← r1.length, ← r2.length]
  refine SeqAt.RcNeAt.lists (e := fun _ => true) p1.isList p2.isList hsz (by omega) (fun j h1 h2 => ?_) _ _ _ _ ?_
  · have k := vals_same (A := X.A.in1) (s := s) r1 r2 hv j (by simpa using h1) (by simpa using h2)
    simpa using k
  · rw [show ((List.range us.toArray.size).all fun _ => true) = true from List.all_eq_true.mpr fun _ _ => rfl]
    exact ⟨.bl false, H, I, rfl, q⟩
theorem op_eqSame {X : Cx} (K : PySem.W.Frag) (hK : X.K = K) (hu : X.A.units + 64 < cLine) : OpR X (compareOp .Eq) (fun x y H Q => ∃ a b vs, x = .ref a ∧ y = .ref b ∧ SqL K H a vs ∧ SqL K H b vs ∧ (∀ v ∈ vs, flatB v = true ∨ ∃ a, v = .ref a) ∧ Q (.bl true) H) := by
  intro pins s σ H x y v u Q I rx ry h
  obtain ⟨a, b, vs, rfl, rfl, ea, eb, hv, q⟩ := h
  subst hK
  obtain rfl : v = Value.ref a := rx
  obtain rfl : u = Value.ref b := ry
  obtain ⟨us, r1, p1, _⟩ := I.list (a := a) (xs := vs) ea
  obtain ⟨ws, r2, p2, _⟩ := I.list (a := b) (xs := vs) eb
  have hsz : us.toArray.size = ws.toArray.size := by
    rw [List.size_toArray, List.size_toArray, ← r1.length, ← r2.length]
  refine SeqAt.RcAt.lists (e := fun _ => true) p1.isList p2.isList hsz (by omega) (fun j h1 h2 => ?_) _ _ _ _ ?_
  · have k := vals_same (A := X.A.in1) (s := s) r1 r2 hv j (by simpa using h1) (by simpa using h2)
    simpa using k
  · rw [show ((List.range us.toArray.size).all fun _ => true) = true from List.all_eq_true.mpr fun _ _ => rfl]
    exact ⟨.bl true, H, I, rfl, q⟩
section
variable {I : Type} {X : I → Cx} {K : PySem.W.Frag} {G : Env}
/-- such a name's data -/
theorem xvf (i : Nat) {x : Str} {pos : Pos} {vs : List V} {ds : List Dt} (hg : G[i]? = some (some (.fl vs ds))) (hN : ∀ j, (X j).N[i]? = some x := by intro _; rfl) (hv : ∀ j, Vis (X j).env.scope x := by intro _; first | exact Or.inl rfl | exact Or.inr (Or.inl rfl) | exact Or.inr (Or.inr rfl))
    (hd : (x == ("__debug__" : Str)) = false := by decide) (hcd : (x == ("__classdict__" : Str)) = false := by decide) : EX X K G (.Name x pos) (.lst ds) := fun F H σ fps Q e q => by
  obtain ⟨v, h1, h2⟩ := e.ent i _ hg
  obtain ⟨a, rfl, _, h, l, r⟩ := h2.fl_inv
  exact ⟨tVar i, fun j => pe_var (hN j) (hv j) hd hcd, _, h1, q F H _ (Up.refl e.sub) (.lst h l r)⟩
theorem en_listF (i : Nat) {x : Str} {p p1 pos : Pos} {vs : List V} {ds : List Dt} (hg : G[i]? = some (some (.fl vs ds))) (hK : ∀ j, (X j).K = K) (hgl : ∀ j, Gl (X j) "list") (hm : ∀ j, (X j).mg "list" = none) (hN : ∀ j, (X j).N[i]? = some x := by intro _; rfl) (hv : ∀ j, Vis (X j).env.scope x := by intro _; first | exact Or.inl rfl | exact Or.inr (Or.inl rfl) | exact Or.inr (Or.inr rfl))
    (hd : (x == ("__debug__" : Str)) = false := by decide) (hcd : (x == ("__classdict__" : Str)) = false := by decide)
    (he : ∀ j, starEach [.Name x p1] (X j).env = [(false, eval (.Name x p1) (X j).env)] := by intro _; rfl) : EN X K G (.Call (.Name "list" p) [.Name x p1] [] pos) (.fl vs ds) := fun F H σ fps Q e q => by
  obtain ⟨v, h1, h2⟩ := e.ent i _ hg
  obtain ⟨a, rfl, _, h, l, r⟩ := h2.fl_inv
  · refine ⟨tCB (fun xs H Q => ∃ p ys, xs = [V.ref p] ∧ (SqL K H p ys ∨ SqT K H p ys) ∧ ∀ l, H l = none → Q (.ref l) (upd H l (.lst ys))) (tCons (tVar i) tNil), fun j => hK j ▸ pe_callTy call_list_of (hgl j) (hm j) (by decide +kernel) (pa_cons (pe_var (hN j) (hv j) hd hcd) pa_nil (he j)) (by decide) (by decide) (he j) rfl, ?_⟩
    refine ⟨_, h1, a, vs, rfl, .inl (SqL.of (e.sub.lst h)), fun D hD => ?_⟩
    exact q (upd F D (.lst vs)) (upd H D (.lst vs)) (.ref D) [] (Up.lay e.sub hD) (.fl upd_same l (r.mono (Ex.new (e.sub.none hD)))) fun a ha => nomatch ha
theorem x_neSame (i j : Nat) (hK : ∀ j, (X j).K = K) {x y : Str} {p1 p2 pos : Pos} {vs : List V} {ds es : List Dt} (hg : G[i]? = some (some (.fl vs ds))) (hg2 : G[j]? = some (some (.fl vs es))) (hu : ∀ j, (X j).A.units + 64 < cLine) (hN : ∀ j, (X j).N[i]? = some x := by intro _; rfl) (hv : ∀ j, Vis (X j).env.scope x := by intro _; first | exact Or.inl rfl | exact Or.inr (Or.inl rfl) | exact Or.inr (Or.inr rfl)) (hN2 : ∀ k, (X k).N[j]? = some y := by intro _; rfl) (hv2 : ∀ j, Vis (X j).env.scope y := by intro _; first | exact Or.inl rfl | exact Or.inr (Or.inl rfl) | exact Or.inr (Or.inr rfl))
    (hd : (x == ("__debug__" : Str)) = false := by decide) (hcd : (x == ("__classdict__" : Str)) = false := by decide) (hd2 : (y == ("__debug__" : Str)) = false := by decide) (hcd2 : (y == ("__classdict__" : Str)) = false := by decide) (hm : behindInMarks .NotEq (.Name y p2) = false := by rfl) : EX X K G (.Compare (.Name x p1) [.NotEq] [.Name y p2] pos) (.bl false) := fun F H σ fps Q e q => by
  obtain ⟨v, h1, h2⟩ := e.ent i _ hg
  obtain ⟨w, k1, k2⟩ := e.ent j _ hg2
  obtain ⟨a, rfl, _, h, l, r⟩ := h2.fl_inv
  obtain ⟨b, rfl, _, h', l', r'⟩ := k2.fl_inv
  exact ⟨tOp _ (tVar i) (tVar j), fun k => pe_cmpR (op_neSame K (hK k) (hu k)) (pe_var (hN k) (hv k) hd hcd) (pe_var (hN2 k) (hv2 k) hd2 hcd2) hm, _, h1, _, k1, a, b, vs, rfl, rfl, SqL.of (e.sub.lst h), SqL.of (e.sub.lst h'), repL_fr r, q F H _ (Up.refl e.sub) (.bl false)⟩
theorem x_eqSame (i j : Nat) (hK : ∀ j, (X j).K = K) {x y : Str} {p1 p2 pos : Pos} {vs : List V} {ds es : List Dt} (hg : G[i]? = some (some (.fl vs ds))) (hg2 : G[j]? = some (some (.fl vs es))) (hu : ∀ j, (X j).A.units + 64 < cLine) (hN : ∀ j, (X j).N[i]? = some x := by intro _; rfl) (hv : ∀ j, Vis (X j).env.scope x := by intro _; first | exact Or.inl rfl | exact Or.inr (Or.inl rfl) | exact Or.inr (Or.inr rfl)) (hN2 : ∀ k, (X k).N[j]? = some y := by intro _; rfl) (hv2 : ∀ j, Vis (X j).env.scope y := by intro _; first | exact Or.inl rfl | exact Or.inr (Or.inl rfl) | exact Or.inr (Or.inr rfl))
    (hd : (x == ("__debug__" : Str)) = false := by decide) (hcd : (x == ("__classdict__" : Str)) = false := by decide) (hd2 : (y == ("__debug__" : Str)) = false := by decide) (hcd2 : (y == ("__classdict__" : Str)) = false := by decide) (hm : behindInMarks .Eq (.Name y p2) = false := by rfl) : EX X K G (.Compare (.Name x p1) [.Eq] [.Name y p2] pos) (.bl true) := fun F H σ fps Q e q => by
  obtain ⟨v, h1, h2⟩ := e.ent i _ hg
  obtain ⟨w, k1, k2⟩ := e.ent j _ hg2
  obtain ⟨a, rfl, _, h, l, r⟩ := h2.fl_inv
  obtain ⟨b, rfl, _, h', l', r'⟩ := k2.fl_inv
  exact ⟨tOp _ (tVar i) (tVar j), fun k => pe_cmpR (op_eqSame K (hK k) (hu k)) (pe_var (hN k) (hv k) hd hcd) (pe_var (hN2 k) (hv2 k) hd2 hcd2) hm, _, h1, _, k1, a, b, vs, rfl, rfl, SqL.of (e.sub.lst h), SqL.of (e.sub.lst h'), repL_fr r, q F H _ (Up.refl e.sub) (.bl true)⟩
theorem b_neSame (i j : Nat) (hK : ∀ j, (X j).K = K) {x y : Str} {p1 p2 pos : Pos} {vs : List V} {ds es : List Dt} (hg : G[i]? = some (some (.fl vs ds))) (hg2 : G[j]? = some (some (.fl vs es))) (hu : ∀ j, (X j).A.units + 64 < cLine) (hN : ∀ j, (X j).N[i]? = some x := by intro _; rfl) (hv : ∀ j, Vis (X j).env.scope x := by intro _; first | exact Or.inl rfl | exact Or.inr (Or.inl rfl) | exact Or.inr (Or.inr rfl)) (hN2 : ∀ k, (X k).N[j]? = some y := by intro _; rfl) (hv2 : ∀ j, Vis (X j).env.scope y := by intro _; first | exact Or.inl rfl | exact Or.inr (Or.inl rfl) | exact Or.inr (Or.inr rfl))
    (hd : (x == ("__debug__" : Str)) = false := by decide) (hcd : (x == ("__classdict__" : Str)) = false := by decide) (hd2 : (y == ("__debug__" : Str)) = false := by decide) (hcd2 : (y == ("__classdict__" : Str)) = false := by decide) (hm : behindInMarks .NotEq (.Name y p2) = false := by rfl) : EB X K G (.Compare (.Name x p1) [.NotEq] [.Name y p2] pos) false := fun F H σ fps Q e q => by
  obtain ⟨v, h1, h2⟩ := e.ent i _ hg
  obtain ⟨w, k1, k2⟩ := e.ent j _ hg2
  obtain ⟨a, rfl, _, h, l, r⟩ := h2.fl_inv
  obtain ⟨b, rfl, _, h', l', r'⟩ := k2.fl_inv
  exact ⟨tTest (tOp _ (tVar i) (tVar j)), fun k => pt_cmpR (op_neSame K (hK k) (hu k)) (pe_var (hN k) (hv k) hd hcd) (pe_var (hN2 k) (hv2 k) hd2 hcd2) hm, _, h1, _, k1, a, b, vs, rfl, rfl, SqL.of (e.sub.lst h), SqL.of (e.sub.lst h'), repL_fr r, _, rfl, q F H (Up.refl e.sub)⟩
theorem b_eqSame (i j : Nat) (hK : ∀ j, (X j).K = K) {x y : Str} {p1 p2 pos : Pos} {vs : List V} {ds es : List Dt} (hg : G[i]? = some (some (.fl vs ds))) (hg2 : G[j]? = some (some (.fl vs es))) (hu : ∀ j, (X j).A.units + 64 < cLine) (hN : ∀ j, (X j).N[i]? = some x := by intro _; rfl) (hv : ∀ j, Vis (X j).env.scope x := by intro _; first | exact Or.inl rfl | exact Or.inr (Or.inl rfl) | exact Or.inr (Or.inr rfl)) (hN2 : ∀ k, (X k).N[j]? = some y := by intro _; rfl) (hv2 : ∀ j, Vis (X j).env.scope y := by intro _; first | exact Or.inl rfl | exact Or.inr (Or.inl rfl) | exact Or.inr (Or.inr rfl))
    (hd : (x == ("__debug__" : Str)) = false := by decide) (hcd : (x == ("__classdict__" : Str)) = false := by decide) (hd2 : (y == ("__debug__" : Str)) = false := by decide) (hcd2 : (y == ("__classdict__" : Str)) = false := by decide) (hm : behindInMarks .Eq (.Name y p2) = false := by rfl) : EB X K G (.Compare (.Name x p1) [.Eq] [.Name y p2] pos) true := fun F H σ fps Q e q => by
  obtain ⟨v, h1, h2⟩ := e.ent i _ hg
  obtain ⟨w, k1, k2⟩ := e.ent j _ hg2
  obtain ⟨a, rfl, _, h, l, r⟩ := h2.fl_inv
  obtain ⟨b, rfl, _, h', l', r'⟩ := k2.fl_inv
  exact ⟨tTest (tOp _ (tVar i) (tVar j)), fun k => pt_cmpR (op_eqSame K (hK k) (hu k)) (pe_var (hN k) (hv k) hd hcd) (pe_var (hN2 k) (hv2 k) hd2 hcd2) hm, _, h1, _, k1, a, b, vs, rfl, rfl, SqL.of (e.sub.lst h), SqL.of (e.sub.lst h'), repL_fr r, _, rfl, q F H (Up.refl e.sub)⟩
end
section
variable {X : Cx} {K : PySem.W.Frag} {W : WX} {sv : Sv} {G : Env} {ss : List Stmt} {o : Out}
/-- a frozen list's very items -/
theorem run_pin {i : Nat} {ds : List Dt} (Gf : List V → Env) (hg : G[i]? = some (some (.fz (.lst ds)))) (hG : ∀ vs, G.set i (some (.fl vs ds)) = Gf vs) (k : ∀ vs, Run X K W sv ss (Gf vs) o) : Run X K W sv ss G o := fun F H σ fps D E s q => by
  obtain ⟨v, h1, h2⟩ := E.ent i _ hg
  obtain ⟨hf, r⟩ := h2.there
  cases r with
  | @lst a vs _ h l r =>
    refine k vs F H σ fps D ?_ s q
    rw [← hG]
    refine ⟨E.sub, by rw [E.len, List.length_set], fun j c hc => ?_, E.own, E.dis, E.tab⟩
    by_cases e : j = i
    · subst e
      rw [List.getElem?_set_self (List.getElem?_eq_some_iff.mp hg).1] at hc
      cases hc
      exact ⟨_, h1, by rw [hf]; exact .fl h l r⟩
    · rw [List.getElem?_set_ne (Ne.symm e)] at hc
      exact E.ent j c hc
end
end Vs

/-! A dict is walked: it is locked meanwhile. -/
namespace Vs
open PySem PySem.Spec L2
/-- the dict that the name's slot holds is locked -/
def Lck (i : Nat) (F H : Hp) (σ : L2.St) : Prop := ∃ a o vs, σ[i]? = some (some (V.ref a)) ∧ F a = some (.dK vs) ∧ H a = some (.frz o (.dK vs))
section
variable {X : Cx} {K : PySem.W.Frag} {G : Env} {i : Nat}
theorem EnvOk.lock {F H : Hp} {σ : L2.St} {fps : Nat → List Addr} {a : Addr} {vs : List (Key × V)} {od : Obj} (Eo : EnvOk K F H σ G fps) (ha : F a = some (.dK vs)) : EnvOk K F (upd H a (.frz od (.dK vs))) σ G fps := by
  have ne : ∀ j b, b ∈ fps j → b ≠ a := fun j b hb z => by subst z; rw [(Eo.own j b hb).1] at ha; cases ha
  refine ⟨fun b u hb => ?_, Eo.len, fun j c hc => ?_, fun j b hb => ?_, Eo.dis, fun P h => ⟨(Eo.tab P h).1, by rcases Eo.sub a _ ha with z | ⟨_, o, z⟩ <;> exact tab_upd (Eo.tab P h).2 z rfl⟩⟩
  · by_cases z : b = a
    · subst z; rw [ha] at hb; cases hb; exact .inr ⟨.inl ⟨_, rfl⟩, od, upd_same⟩
    · rcases Eo.sub b u hb with y | ⟨c, o, y⟩
      · exact .inl (by rw [upd_ne z]; exact y)
      · exact .inr ⟨c, o, by rw [upd_ne z]; exact y⟩
  · obtain ⟨w, a1, a2⟩ := Eo.ent j c hc
    exact ⟨w, a1, a2.mono (Ex.refl F) fun b hb o y _ => by rw [upd_ne (ne j b hb)]; exact y⟩
  · exact ⟨(Eo.own j b hb).1, by rw [upd_ne (ne j b hb)]; exact (Eo.own j b hb).2⟩
theorem ENL.unlock {I : Type} {X : I → Cx} {e : Expr} {c : Cell} {ds : List (Key × Dt)} (h : ENL (Lck i) X K G e c) (hg : G[i]? = some (some (.fz (.dic ds)))) : EN X K G e c := fun F H σ fps Q Eo q => by
  obtain ⟨v, h1, h2⟩ := Eo.ent i _ hg
  obtain ⟨hf, r⟩ := h2.there
  cases r with
  | @dic a vs _ ha l rk nd =>
    rcases Eo.sub a _ ha with hH | ⟨_, o, hH⟩
    · refine ⟨tLockE (wpE X e), fun i => pe_lock (pe_wp i), a, .dK vs, hH, trivial, fun od => ?_⟩
      refine h F _ σ fps _ (Eo.lock ha) ⟨a, od, vs, h1, ha, upd_same⟩ fun F1 H1 w fp u r1 n => ?_
      have hk : H1 a = some (.frz od (.dK vs)) := u.hp.h upd_same
      have fa : F1 a = some (.dK vs) := u.fr a _ ha
      have na : ∀ b, F1 b = none → b ≠ a := fun b y z => by subst z; rw [fa] at y; cases y
      refine ⟨hk, q F1 _ w fp ⟨u.fr, ((((ExO.refl (O := fun b => b = a) H).upd hH rfl rfl).then u.hp).upd hk rfl rfl).back hH upd_same, fun b y y' => ?_, fun b o y => ?_⟩ (r1.mono (Ex.refl _) fun b hb o y _ => by rw [upd_ne (na b (n b hb).2.1)]; exact y) fun b hb => ?_⟩
      · have z : b ≠ a := fun z => by subst z; rw [ha] at y; cases y
        exact u.nw b y (by rw [upd_ne z]; exact y')
      · by_cases z : b = a
        · subst z; rw [fa] at y; cases y; exact .inl upd_same
        · rcases u.sb b o y with k | ⟨c, o', k⟩
          · exact .inl (by rw [upd_ne z]; exact k)
          · exact .inr ⟨c, o', by rw [upd_ne z]; exact k⟩
      · obtain ⟨n1, n2, n3⟩ := n b hb
        have z := na b n2
        rw [upd_ne z] at n1 ⊢
        exact ⟨n1, n2, n3⟩
    · exact h F H σ fps Q Eo ⟨a, o, vs, h1, ha, hH⟩ q
variable {κ A : Type} {g : κ → Key} {f : A → Dt} {kvs : List (κ × A)} {tg : Expr}
theorem lck_rep {F H : Hp} {σ : L2.St} {fps : Nat → List Addr} {ds : List (Key × Dt)} (Eo : EnvOk K F H σ G fps) (hL : Lck i F H σ) (hg : G[i]? = some (some (.fz (.dic ds)))) :
    ∃ a o vs, σ[i]? = some (some (V.ref a)) ∧ H a = some (.frz o (.dK vs)) ∧ RepK K F vs ds ∧ ∀ F' H', Ex F F' → Kp F H H' → H' a = some (.frz o (.dK vs)) := by
  obtain ⟨v, h1, h2⟩ := Eo.ent i _ hg
  obtain ⟨a, o, vs, l1, l2, l3⟩ := hL
  rw [h1] at l1; cases l1
  obtain ⟨_, r⟩ := h2.there
  cases r with
  | dic ha l rk nd =>
    rw [l2] at ha; cases ha
    exact ⟨a, o, vs, h1, l3, rk, fun F' H' _ k => k a _ (by rw [l2]; simp) l3 rfl⟩
/-- d.values() -/
theorem src_vals {I : Type} {X : I → Cx} {x : Str} {p apos cpos : Pos} (i : Nat) (hg : G[i]? = some (some (.fz (.dic (encK g f kvs))))) (hN : ∀ j, (X j).N[i]? = some x := by intro _; rfl) (hv : ∀ j, Vis (X j).env.scope x := by first | exact fun _ => Or.inl rfl | exact fun _ => Or.inr (Or.inl rfl) | exact fun _ => Or.inr (Or.inr rfl))
    (hd : (x == ("__debug__" : Str)) = false := by decide) (hcd : (x == ("__classdict__" : Str)) = false := by decide) (hbase : ∀ j, attributeBase (.Name x p) "values" (X j).env (eval (.Name x p) (X j).env) = eval (.Name x p) (X j).env := by intro _; rfl) (hline : (apos.endLine == cpos.line) = true := by rfl)
    (hs : ∀ i y, foldedSetIterable (.Call (.Attribute (.Name x p) "values" apos) [] [] cpos) (X i).env y = pure y := by intro _ _; rfl) : ISrcL (Lck i) X K G tg (.Call (.Attribute (.Name x p) "values" apos) [] [] cpos) ((kvs.map (·.2)).map f) :=
  ⟨iVals (tVar i), fun j => pi_values (pe_var (hN j) (hv j) hd hcd) (hbase j) hline, hs, fun F H σ fps R Eo hL q => by
    obtain ⟨a, o, vs, h1, l3, rk, kp⟩ := lck_rep Eo hL hg
    have hl := repK_len rk
    have rv := repK_valsL rk
    have hlen : ((kvs.map (·.2)).map f).length = vs.length := by rw [List.length_map, List.length_map, hl]
    refine ⟨_, h1, a, o, vs, rfl, l3, q _ F H (Up.refl Eo.sub) ⟨fun j F' H' e s k hj => ⟨kp F' H' e k, by omega⟩, fun j F' H' e s k hj => ⟨kp F' H' e k, by omega⟩, fun j d F' H' v H'' e s k hd hy => ?_⟩⟩
    obtain ⟨rfl, k', hk⟩ := hy
    rw [List.map_map] at hd
    obtain ⟨w, e1, e2⟩ := rv.get (show (kvs.map fun z => f z.2)[j]? = some d from hd)
    rw [List.getElem?_map, hk] at e1
    cases e1
    exact ⟨F', Up.refl s, e2.mono e⟩⟩
/-- the keys: for x in d -/
theorem src_keys {I : Type} {X : I → Cx} {x : Str} {p : Pos} {fk : κ → Dt} (i : Nat) (hg : G[i]? = some (some (.fz (.dic (encK g f kvs))))) (hk : ∀ k, keyD (g k) = fk k) (hN : ∀ j, (X j).N[i]? = some x := by intro _; rfl) (hv : ∀ j, Vis (X j).env.scope x := by first | exact fun _ => Or.inl rfl | exact fun _ => Or.inr (Or.inl rfl) | exact fun _ => Or.inr (Or.inr rfl))
    (hd : (x == ("__debug__" : Str)) = false := by decide) (hcd : (x == ("__classdict__" : Str)) = false := by decide)
    (hs : ∀ i y, foldedSetIterable (.Name x p) (X i).env y = pure y := by intro _ _; rfl) : ISrcL (Lck i) X K G tg (.Name x p) ((kvs.map (·.1)).map fk) :=
  ⟨iKeys (tVar i), fun j => pi_keys (pe_var (hN j) (hv j) hd hcd), hs, fun F H σ fps R Eo hL q => by
    obtain ⟨a, o, vs, h1, l3, rk, kp⟩ := lck_rep Eo hL hg
    have hl := repK_len rk
    have rv := repK_keysL rk
    have hlen : ((kvs.map (·.1)).map fk).length = vs.length := by rw [List.length_map, List.length_map, hl]
    refine ⟨_, h1, a, o, rfl, .inl ⟨vs, l3, q _ F H (Up.refl Eo.sub) ⟨fun j F' H' e s k hj => ⟨kp F' H' e k, by omega⟩, fun j F' H' e s k hj => ⟨kp F' H' e k, by omega⟩, fun j d F' H' v H'' e s k hd hy => ?_⟩⟩⟩
    obtain ⟨rfl, k', v', hk', rfl⟩ := hy
    have e0 : (kvs.map (·.1)).map fk = kvs.map fun z => keyD (g z.1) := by
      rw [List.map_map]
      exact List.map_congr_left fun z _ => (hk z.1).symm
    rw [e0] at hd
    obtain ⟨w, e1, e2⟩ := rv.get hd
    rw [List.getElem?_map, hk'] at e1
    cases e1
    exact ⟨F', Up.refl s, e2.mono e⟩⟩
/-- [elt for TARGET in d.. if ..] -/
theorem x_lcD {I : Type} {X : I → Cx} {A : Type} {elt tg iter : Expr} {ifs : List Expr} {scope : Scope} {own : List (Str × Nat)} {pos : Pos} {g : TG} {js : List Nat} {xs : List A} {ds : List (Key × Dt)} (i : Nat) (hgi : G[i]? = some (some (.fz (.dic ds)))) (enc : A → Dt) (Gb : A → Env) (p : A → Bool) (f : A → Dt)
    (hc : ∀ i, (X i).calm = true) (hN : ∀ i, (X i).N.Nodup) (hi : ISrcL (Lck i) X K G tg iter (xs.map enc)) (hn : xs.length ≤ big) (ok : ∀ i, BlkOk (X i).N (X i).env.scope scope own) (hjs : ∀ j ∈ js, j ∈ own.map (·.2))
    (hg : ∀ b, PG (blkX X scope b) tg g) (hB : ∀ x, Bd K g js (enc x) (wipeG G (own.map (·.2))) (Gb x))
    (ht : ∃ t : TT, (∀ i, PTs (blkX X scope i) ifs t) ∧ ∀ x, x ∈ xs → ∀ F H σ fps (Q : Bool → Hp → Prop), EnvOk K F H σ (Gb x) fps → (∀ F' H', Up F H F' H' → Q (p x) H') → t σ H Q)
    (he : ∀ x, x ∈ xs → p x = true → EX (blkX X scope) K (Gb x) elt (f x)) :
    EN X K G (.ListComp elt [⟨tg, iter, ifs, 0⟩] scope pos) (.ol (xs.filterMap fun x => if p x then some (f x) else none)) := (en_lcL (Lck i) enc Gb p f hc hN hi hn ok hjs hg hB ht he).unlock hgi
end
end Vs

/-! Calls that leave parameters to their defaults. list(d), typed. -/
namespace Vs
open PySem PySem.Spec L2
/-- a def that is called with its last parameters left to their defaults dd -/
structure CalleeD (P : Program) (w : World) (K : PySem.W.Frag) (mg : Str → Option Value) (base : Heap) (x : Str) (k n : Nat) (dd : List Dt) (r : List Dt → Sum Cell Xc → Prop) : Prop where
  ex : ∃ f fd ps dvs ds, FnOk P w K mg base (L2.CX P w) k f fd ps (spR K n r) ∧ mg x = some (.ref f) ∧ PySem.W.keepIn K (.ref f) = true ∧ Binds K fd ps ds ∧ Vals dvs ds ∧ ∀ F, RepL K F dvs dd
section
variable {I : Type} {X : I → Cx} {K : PySem.W.Frag} {G : Env} {P : Program} {w : World} {mg : Str → Option Value} {base : Heap}
theorem en_callD {x : Str} {k n : Nat} {dd : List Dt} {r : List Dt → Sum Cell Xc → Prop} {p pos : Pos} {e : Expr} {es : List Expr} {ds : List Dt} {c : Cell} (C : CalleeD P w K mg base x k n dd r) (hX : Of X P w K mg base) (hr : ∀ j, Room k (X j).A) (hg : ∀ j, Gl (X j) x)
    (ha : EA X K G (e :: es) ds) (hn : (ds ++ dd).length = n) (hR : r (ds ++ dd) (.inl c)) (hdb : (x == ("__debug__" : Str)) = false := by decide) (he : ∀ j, starEach (e :: es) (X j).env = (false, eval e (X j).env) :: starEach es (X j).env := by intro _; rfl)
    (hpl : ∀ j, (backTo pos (starEach es (X j).env)).any (·.1) = false := by intro _; rfl) : EN X K G (.Call (.Name x p) (e :: es) [] pos) c := fun F H σ fps Q Eo q => by
  obtain ⟨f, fd, ps, dvs, dsv, h1, h2, h3, h4, h5, h6⟩ := C.ex
  refine ⟨tCall (spR K n r) dvs E0 (wpA X (e :: es)), fun j => ?_, ha F H σ fps _ Eo fun F1 H1 vs u rl => ?_⟩
  · obtain ⟨e1, e2, e3, e4, e5⟩ := hX j
    subst e1 e2 e3 e4 e5
    exact pe_call h1 (hr j) (hg j) h2 h3 h4 h5 passL (pa_wp j) hdb (he j) (hpl j)
  · exact ⟨F1, ds ++ dd, .inl c, ⟨u.sb, Eo.tab.up u⟩, rl.append (h6 F1), hn, hR, fun F' H' v fp u' r' n' => q F' H' v fp (u.trans u') r' fun a ha => ⟨u.hp.free (n' a ha).1, (n' a ha).2.1, (n' a ha).2.2⟩⟩
theorem ex_callD {x : Str} {k n : Nat} {dd : List Dt} {r : List Dt → Sum Cell Xc → Prop} {p pos : Pos} {e : Expr} {es : List Expr} {ds : List Dt} {d : Dt} (C : CalleeD P w K mg base x k n dd r) (hX : Of X P w K mg base) (hr : ∀ j, Room k (X j).A) (hg : ∀ j, Gl (X j) x)
    (ha : EA X K G (e :: es) ds) (hn : (ds ++ dd).length = n) (hR : r (ds ++ dd) (.inl (.fz d))) (hdb : (x == ("__debug__" : Str)) = false := by decide) (he : ∀ j, starEach (e :: es) (X j).env = (false, eval e (X j).env) :: starEach es (X j).env := by intro _; rfl)
    (hpl : ∀ j, (backTo pos (starEach es (X j).env)).any (·.1) = false := by intro _; rfl) : EX X K G (.Call (.Name x p) (e :: es) [] pos) d := (en_callD C hX hr hg ha hn hR hdb he hpl).fz0
theorem bindsF {fd : FuncData} {ps : List Str} (h : ∃ ds, Vals [] ds ∧ Binds K fd ps ds) : Binds K fd ps [] := by
  obtain ⟨ds, r, b⟩ := h
  cases r
  exact b
theorem calleeN {x : Str} {k n : Nat} {r : List Dt → Sum Cell Xc → Prop} {f : Addr} {fd : FuncData} {ps : List Str} (h1 : FnOk P w K mg base (L2.CX P w) k f fd ps (spR K n r)) (h2 : mg x = some (.ref f)) (h3 : PySem.W.keepIn K (.ref f) = true) (h4 : ∃ ds, Vals [V.non] ds ∧ Binds K fd ps ds) : CalleeD P w K mg base x k n [.non] r := by
  obtain ⟨ds, r, b⟩ := h4
  exact ⟨f, fd, ps, _, ds, h1, h2, h3, b, r, fun F => .cons .non .nil⟩
/-- list(d), the keys typed -/
theorem x_listD {κ A : Type} {g : κ → Key} {f : A → Dt} {e : Expr} {p pos : Pos} {kvs : List (κ × A)} (fk : κ → Dt) (hk : ∀ k, keyD (g k) = fk k) (hc : ∀ j, (X j).calm = true) (h : ED X K G e (encK g f kvs)) (hg : ∀ j, Gl (X j) "list") (hm : ∀ j, (X j).mg "list" = none)
    (he : ∀ j, starEach [e] (X j).env = [(false, eval e (X j).env)] := by intro _; rfl) : EN X K G (.Call (.Name "list" p) [e] [] pos) (.ol ((kvs.map (·.1)).map fk)) := by
  have z := en_listD (p := p) (pos := pos) hc h hg hm he
  rw [show (kvs.map (·.1)).map fk = kvs.map fun z => keyD (g z.1) from by rw [List.map_map]; exact List.map_congr_left fun z _ => (hk z.1).symm]
  exact z
end
/-- enumerate, typed -/
def enum {A : Type} (xs : List A) : List (Nat × A) := xs.mapIdx fun i x => (i, x)
theorem x_enum {A : Type} {I : Type} {X : I → Cx} {K : PySem.W.Frag} {G : Env} (f : A → Dt) {xs : List A} {a : Expr} {p pos tpos : Pos} {elts : List Expr} {kk : Nat} (hK : ∀ i, (X i).K = K) (hg : ∀ i, Gl (X i) "enumerate") (hm : ∀ i, (X i).mg "enumerate" = none) (h : EX X K G a (.lst (xs.map f))) (hsa : ∀ i, starEach [a] (X i).env = [(false, eval a (X i).env)] := by intro _; rfl)
    (hs : ∀ i x, foldedSetIterable (.Call (.Name "enumerate" p) [a] [] pos) (X i).env x = pure x := by intro _ _; rfl) : ISrc X K G (.Tuple elts kk tpos) (.Call (.Name "enumerate" p) [a] [] pos) ((enum xs).map fun z : Nat × A => Dt.tup [Dt.int (z.1 : Int), f z.2]) := by
  have e : (xs.map f).mapIdx (fun i d => Dt.tup [.int (i : Int), d]) = (enum xs).map fun z : Nat × A => Dt.tup [Dt.int (z.1 : Int), f z.2] := by
    unfold enum
    apply List.ext_getElem?
    intro i
    rw [List.getElem?_mapIdx, List.getElem?_map, List.getElem?_map, List.getElem?_mapIdx]
    cases xs[i]? <;> rfl
  rw [← e]
  exact src_enum hK hg hm h hsa hs
theorem tt_of {A : Type} {I : Type} {X : I → Cx} {K : PySem.W.Frag} {scope : Scope} {Gb : A → Env} {p : A → Bool} {xs : List A} {e : Expr} (h : ∀ x, x ∈ xs → EB (blkX X scope) K (Gb x) e (p x)) :
    ∃ t : TT, (∀ i, PTs (blkX X scope i) [e] t) ∧ ∀ x, x ∈ xs → ∀ F H σ fps (Q : Bool → Hp → Prop), EnvOk K F H σ (Gb x) fps → (∀ F' H', Up F H F' H' → Q (p x) H') → t σ H Q :=
  ⟨wpT _ e, fun i => pts_one (pt_wp i), fun x hm F H σ fps Q E q => h x hm F H σ fps Q E q⟩
end Vs

/-! Dicts of tuple keys. -/
namespace Vs
open PySem PySem.Spec L2
def encT {κ A : Type} (g : κ → List Key) (f : A → Dt) (kvs : List (κ × A)) : List (List Key × Dt) := kvs.map fun z => (g z.1, f z.2)
section
variable {κ A : Type} [DecidableEq κ] {g : κ → List Key} (hg : ∀ a b, g a = g b → a = b) {f : A → Dt} {K : PySem.W.Frag} {F : Hp}
include hg
theorem repT_get (k : κ) : ∀ {kvs : List (κ × A)} {vs : List (List Key × V)}, RepT K F vs (encT g f kvs) → (gets kvs k = none ∧ valV vs (g k) = none) ∨ ∃ a v, gets kvs k = some a ∧ valV vs (g k) = some v ∧ Rep K F v (f a)
  | [], _, .nil => .inl ⟨rfl, rfl⟩
  | (j, a) :: r, _, .cons (v := v) (vs := vs) h t => by
    by_cases e : j = k
    · subst e
      exact .inr ⟨a, v, by simp [gets], valV_pos rfl, h⟩
    · have e' : ¬ (g j, v).1 = g k := fun z => e (hg _ _ z)
      rw [valV_neg e']
      have e2 : gets ((j, a) :: r) k = gets r k := by simp [gets, e]
      rw [e2]
      exact repT_get k t
theorem repT_put (k : κ) {v : V} {a : A} (hv : Rep K F v (f a)) : ∀ {kvs : List (κ × A)} {vs : List (List Key × V)}, (kvs.map (·.1)).Nodup → RepT K F vs (encT g f kvs) → RepT K F (putK vs (g k) v) (encT g f (puts kvs k a))
  | [], _, _, .nil => .cons hv .nil
  | (j, b) :: r, _, nd, .cons (v := w) (vs := vs) h t => by
    rw [List.map_cons, List.nodup_cons] at nd
    by_cases e : j = k
    · subst e
      have e2 : puts ((j, b) :: r) j a = (j, a) :: r := by simp [puts]
      rw [e2]
      have ht : ∀ {kvs : List (κ × A)} {vs : List (List Key × V)}, j ∉ kvs.map (·.1) → RepT K F vs (encT g f kvs) → (vs.map fun kv => if kv.1 = g j then (kv.1, v) else kv) = vs := by
        intro kvs
        induction kvs with
        | nil => intro vs _ q; cases q; rfl
        | cons z s ih =>
          intro vs hn q
          cases q with
          | cons h1 h2 =>
            rw [List.map_cons, List.mem_cons, not_or] at hn
            rw [List.map_cons, ih hn.2 h2, if_neg (fun x => hn.1 (hg _ _ x).symm)]
      unfold putK
      rw [if_pos (by simp), List.map_cons, if_pos rfl, ht nd.1 t]
      exact .cons hv t
    · have e' : ¬ g j = g k := fun z => e (hg _ _ z)
      have e2 : puts ((j, b) :: r) k a = (j, b) :: puts r k a := by simp [puts, e]
      have e3 : putK ((g j, w) :: vs) (g k) v = (g j, w) :: putK vs (g k) v := by
        unfold putK
        rw [List.any_cons]
        simp only [e', decide_false, Bool.false_or, List.map_cons, if_false]
        split <;> rfl
      rw [e2, e3]
      exact .cons h (repT_put k hv nd.2 t)
end
theorem repT_len {κ A : Type} {g : κ → List Key} {f : A → Dt} {K : PySem.W.Frag} {F : Hp} : ∀ {kvs : List (κ × A)} {vs : List (List Key × V)}, RepT K F vs (encT g f kvs) → vs.length = kvs.length
  | [], _, .nil => rfl
  | _ :: r, _, .cons _ t => by rw [List.length_cons, List.length_cons, repT_len t]
theorem repT_keys {κ A : Type} {g : κ → List Key} {f : A → Dt} {K : PySem.W.Frag} {F : Hp} : ∀ {kvs : List (κ × A)} {vs : List (List Key × V)}, RepT K F vs (encT g f kvs) → vs.map (·.1) = kvs.map fun z => g z.1
  | [], _, .nil => rfl
  | _ :: r, _, .cons _ t => by rw [List.map_cons, List.map_cons, repT_keys t]
theorem nodupT_un {κ A : Type} {g : κ → List Key} {f : A → Dt} {K : PySem.W.Frag} {F : Hp} {kvs : List (κ × A)} {vs : List (List Key × V)} (r : RepT K F vs (encT g f kvs)) (h : (vs.map (·.1)).Nodup) : (kvs.map (·.1)).Nodup := by
  rw [repT_keys r] at h
  have e : (kvs.map fun z => g z.1) = (kvs.map (·.1)).map g := by rw [List.map_map]; rfl
  rw [e] at h
  unfold List.Nodup at h ⊢
  rw [List.pairwise_map] at h
  exact h.imp fun hab z => hab (by rw [z])
theorem nodupT_g {κ A : Type} {g : κ → List Key} (hgi : ∀ a b, g a = g b → a = b) {kvs : List (κ × A)} (h : (kvs.map (·.1)).Nodup) : (kvs.map fun z => g z.1).Nodup := by
  have e : (kvs.map fun z => g z.1) = (kvs.map (·.1)).map g := by rw [List.map_map]; rfl
  rw [e]
  exact List.Pairwise.map g (fun a b (hab : a ≠ b) z => hab (hgi a b z)) h
/-- pairs of texts as keys -/
def kSS (p : Str × Str) : List Key := [.inr p.1, .inr p.2]
theorem kSS_inj (a b : Str × Str) (h : kSS a = kSS b) : a = b := by
  obtain ⟨a1, a2⟩ := a
  obtain ⟨b1, b2⟩ := b
  unfold kSS at h
  injection h with h1 h2
  injection h2 with h2 _
  injection h1 with h1
  injection h2 with h2
  dsimp only at h1 h2
  rw [h1, h2]
theorem kSS_rep {K : PySem.W.Frag} (p : Str × Str) (F : Hp) (v : V) (r : Rep K F v (.tup [.str p.1, .str p.2])) : ∃ b, v = .ref b ∧ F b = some (.tup ((kSS p).map kV)) := by
  cases r with
  | tup h _ rl =>
    cases rl with
    | cons r1 rl =>
      cases rl with
      | cons r2 rl =>
        cases rl
        cases r1
        cases r2
        exact ⟨_, rfl, h⟩
theorem sub_tup {F H : Hp} (s : Sub F H) {b : Addr} {vs : List V} (h : F b = some (.tup vs)) : H b = some (.tup vs) := by
  rcases s b _ h with q | ⟨c, _⟩
  · exact q
  · rcases c with ⟨_, c⟩ | ⟨_, c⟩ <;> cases c
section
variable {I : Type} {X : I → Cx} {K : PySem.W.Frag} {G : Env}
theorem en_dit0 {pos : Pos} : EN X K G (.Dict [] [] pos) (.odt []) := fun F H σ fps Q k q =>
  ⟨tDNewT, fun _ => pe_dnewT, fun d hd => by
    refine q F (upd H d (.dT [])) (.ref d) [d] (Up.layH k.sub hd) (.odt upd_same (Nat.zero_le _) .nil List.nodup_nil) fun a ha => ?_
    obtain rfl : a = d := by simpa using ha
    exact ⟨hd, k.sub.none hd, by rw [upd_same]; simp⟩⟩
/-- a seen dict of tuple keys -/
def EDT (X : I → Cx) (K : PySem.W.Frag) (G : Env) (e : Expr) (ds : List (List Key × Dt)) : Prop :=
  ∀ F H σ fps (Q : VK), EnvOk K F H σ G fps → (∀ F' H' p vs, Up F H F' H' → Rd H' p (.dT vs) → vs.length ≤ big → RepT K F' vs ds → (vs.map (·.1)).Nodup → Q (.ref p) H') → wpE X e σ H Q
theorem EX.edt {e : Expr} {ds : List (List Key × Dt)} (h : EX X K G e (.dit ds)) : EDT X K G e ds := fun F H σ fps Q k q =>
  h F H σ fps Q k fun F1 H1 v u r => by
    cases r with
    | dit h1 l r n => exact q F1 H1 _ _ u (u.sb.rd h1) l r n
theorem EP.edt {e : Expr} {i : Nat} {π : List Nat} {ds : List (List Key × Dt)} (h : EP X K G e i π) (hg : atG G i π = some (.odt ds)) : EDT X K G e ds := fun F H σ fps Q E q =>
  h F H σ fps _ E fun F1 H1 v u l => by
    obtain ⟨fpc, r, _⟩ := (E.up u).loc hg l
    obtain ⟨p, vs, rfl, _, h2, l, r, nd⟩ := r.odt_inv
    exact q F1 H1 p vs u (.inl h2) l r nd
variable {κ A : Type} [DecidableEq κ] {g : κ → List Key} {kvs : List (κ × A)} {k : κ} (f : A → Dt) (hgi : ∀ a b, g a = g b → a = b) (fk : κ → Dt) (hk : ∀ p F v, Rep K F v (fk p) → ∃ b, v = .ref b ∧ F b = some (.tup ((g p).map kV)))
include hgi hk
theorem dgetT {F H : Hp} {p : Addr} {vs : List (List Key × V)} {y : V} (s : Sub F H) (r : Rd H p (.dT vs)) (rl : RepT K F vs (encT g f kvs)) (ry : Rep K F y (fk k)) : ∃ ov, DGet H p y ov ∧ ov.isSome = hasK kvs k := by
  obtain ⟨b, rfl, hb⟩ := hk k F y ry
  refine ⟨_, .inr ⟨vs, g k, b, r, rfl, sub_tup s hb, rfl⟩, ?_⟩
  unfold hasK
  rcases repT_get hgi k rl with ⟨e1, e2⟩ | ⟨b, w, e1, e2, e3⟩
  · rw [e1, e2]; rfl
  · rw [e1, e2]; rfl
/-- k in d, k not in d -/
theorem xx_inT {o e : Expr} {pos : Pos} (hu : ∀ j, (X j).A.units + 64 < cLine) (he : EX X K G e (fk k)) (ho : EDT X K G o (encT g f kvs)) (hm : behindInMarks .In o = false := by rfl) : EX X K G (.Compare e [.In] [o] pos) (.bl (hasK kvs k)) := fun F H σ fps Q E q =>
  ⟨tDIn (wpE X e) (wpE X o), fun j => pe_cmp (pc_din (Nat.lt_of_le_of_lt (by omega) (hu j)) (pe_wp j) (pe_wp j)) hm, he F H σ fps _ E fun F1 H1 y u1 r1 => ho F1 H1 σ fps _ (E.up u1) fun F2 H2 p vs u2 r l rl _ => by
    obtain ⟨ov, g1, g2⟩ := dgetT f hgi fk hk (k := k) u2.sb r rl (r1.mono u2.fr)
    exact ⟨p, ov, rfl, g1, by rw [g2]; exact q F2 H2 _ (u1.trans u2) (.bl _)⟩⟩
theorem xb_inT {o e : Expr} {pos : Pos} (hu : ∀ j, (X j).A.units + 64 < cLine) (he : EX X K G e (fk k)) (ho : EDT X K G o (encT g f kvs)) (hm : behindInMarks .In o = false := by rfl) : EB X K G (.Compare e [.In] [o] pos) (hasK kvs k) := fun F H σ fps Q E q =>
  ⟨tTest (tDIn (wpE X e) (wpE X o)), fun j => pt_cmp (pc_din (Nat.lt_of_le_of_lt (by omega) (hu j)) (pe_wp j) (pe_wp j)) hm, he F H σ fps _ E fun F1 H1 y u1 r1 => ho F1 H1 σ fps _ (E.up u1) fun F2 H2 p vs u2 r l rl _ => by
    obtain ⟨ov, g1, g2⟩ := dgetT f hgi fk hk (k := k) u2.sb r rl (r1.mono u2.fr)
    exact ⟨p, ov, rfl, g1, _, rfl, by rw [g2]; exact q F2 H2 (u1.trans u2)⟩⟩
end
section
variable {X : Cx} {K : PySem.W.Frag} {W : WX} {sv : Sv} {G : Env} {rest : List Stmt} {o : Out} {pos : Pos}
/-- d[k] = e, d an own dict of tuple keys -/
theorem run_setDT {κ A : Type} [DecidableEq κ] {g : κ → List Key} {i : Nat} {π : List Nat} {t e ie : Expr} {sp : Pos} {kvs : List (κ × A)} {k : κ} {a : A} {G' : Env} (f : A → Dt) (hgi : ∀ a b, g a = g b → a = b) (fk : κ → Dt) (hk : ∀ p F v, Rep K F v (fk p) → ∃ b, v = .ref b ∧ F b = some (.tup ((g p).map kV))) (hu : X.A.units + 64 < cLine) (ht : EP (one X) K G t i π) (hg : atG G i π = some (.odt (encT g f kvs))) (h : EX (one X) K G e (f a)) (hi : EX (one X) K G ie (fk k)) (hn : kvs.length + 1 ≤ big)
    (hG : updG G i π (.odt (encT g f (puts kvs k a))) = G') (kk : Run X K W sv rest G' o)
    (hs : swapsWith e (some (.Subscript t ie sp)) pos.line X.env = pure false := by rfl) :
    Run X K W sv (.Assign [.Subscript t ie sp] e pos :: rest) G o := fun F H σ fps D Eo s q => by
  subst hG
  refine ⟨tSeq (sDPut (wpE (one X) t) (wpE (one X) ie) (wpE (one X) e)) (wpSs X rest), pss_cons (ps_dput (Nat.lt_of_le_of_lt (by omega) hu) pe_w1 pe_w1 pe_w1 hs) pss_wp, h F H σ fps _ Eo fun F1 H1 w u r1 => ?_⟩
  refine ht F1 H1 σ fps _ (Eo.up u) fun F0 H0 v u0 l0 => ?_
  obtain ⟨fpc0, r0, _⟩ := ((Eo.up u).up u0).loc hg l0
  obtain ⟨p, vs, rfl, _, b2, l, r, nd⟩ := r0.odt_inv
  refine hi F0 H0 σ fps _ ((Eo.up u).up u0) fun F2 H2 m u2 r2 => ?_
  obtain ⟨b, rfl, hb⟩ := hk k F2 m r2
  have E2 := ((Eo.up u).up u0).up u2
  have hlen := repT_len r
  have nd0 := nodupT_un r nd
  have nw : RepT K F2 (putK vs (g k) w) (encT g f (puts kvs k a)) := repT_put hgi k (r1.mono (u0.trans u2).fr) nd0 (r.mono u2.fr)
  have hl2 : (putK vs (g k) w).length ≤ big := by
    have e1 := repT_len nw
    have := puts_len k a kvs
    omega
  have nd2 : ((putK vs (g k) w).map (·.1)).Nodup := by rw [repT_keys nw]; exact nodupT_g hgi (puts_nodup nd0)
  obtain ⟨fps2, E3, l3⟩ := E2.set1 (fq := []) hg (l0.mono u2.hp) (fun fpc r a => by obtain ⟨p', _, e1, e2, _⟩ := r.odt_inv; cases e1; rw [e2]; simp) (.dT (putK vs (g k) w)) (.odt (encT g f (puts kvs k a))) (.odt upd_same hl2 nw nd2)
  exact ⟨p, _, rfl, DPut.t (u2.hp.h b2) (sub_tup u2.sb hb) (Nat.lt_of_lt_of_le (by omega) big_line), kk F2 _ σ fps2 D E3 s (q.le (((u.trans u0).trans u2).le.trans l3))⟩
end
end Vs

/-! Dicts of own lists: d.setdefault(k, []).append(e). -/
namespace Vs
open PySem PySem.Spec L2
def encL {κ A : Type} (g : κ → Key) (f : A → Dt) (kvs : List (κ × List A)) : List (Key × Cell) := kvs.map fun z => (g z.1, .ol (z.2.map f))
/-- d.setdefault(k, []).append(x) -/
def apps {κ A : Type} [DecidableEq κ] (kvs : List (κ × List A)) (k : κ) (x : A) : List (κ × List A) := puts kvs k ((gets kvs k).getD [] ++ [x])
section
variable {κ A : Type} [DecidableEq κ] {g : κ → Key} (hg : ∀ a b, g a = g b → a = b) {f : A → Dt} {K : PySem.W.Frag} {F H : Hp}
include hg
theorem repCL_get (k : κ) : ∀ {kvs : List (κ × List A)} {fp : List Addr} {vs : List (Key × V)}, RepCK K F H fp vs (encL g f kvs) → (gets kvs k = none ∧ valV vs (g k) = none) ∨ ∃ xs q ws, gets kvs k = some xs ∧ valV vs (g k) = some (.ref q) ∧ q ∈ fp ∧ H q = some (.lst ws) ∧ ws.length ≤ big ∧ RepL K F ws (xs.map f)
  | [], _, _, .nil => .inl ⟨rfl, rfl⟩
  | (j, a) :: r, _, _, .cons (v := v) (vs := vs) (fp := fp) (fq := fq) o h t d => by
    by_cases e : j = k
    · subst e
      obtain ⟨p, ws, rfl, rfl, h1, h2, h3⟩ := h.ol_inv
      exact .inr ⟨a, p, ws, by simp [gets], valV_pos rfl, by simp, h1, h2, h3⟩
    · have e' : ¬ (g j, v).1 = g k := fun z => e (hg _ _ z)
      rw [valV_neg e']
      have e2 : gets ((j, a) :: r) k = gets r k := by simp [gets, e]
      rw [e2]
      rcases repCL_get k t with h' | ⟨xs, q, ws, a1, a2, a3, a4⟩
      · exact .inl h'
      · exact .inr ⟨xs, q, ws, a1, a2, List.mem_append_right _ a3, a4⟩
theorem repCL_put (k : κ) {F' H' : Hp} (ex : Ex F F') {q : Addr} {xs' : List A} {ws' : List V} (h1 : H' q = some (.lst ws')) (h2 : ws'.length ≤ big) (h3 : RepL K F' ws' (xs'.map f)) : ∀ {kvs : List (κ × List A)} {fp : List Addr} {vs : List (Key × V)}, RepCK K F H fp vs (encL g f kvs) → (∀ a ∈ fp, a ≠ q → ∀ o, H a = some o → nT o = true → H' a = some o) → valV vs (g k) = some (.ref q) → RepCK K F' H' fp vs (encL g f (puts kvs k xs'))
  | [], _, _, .nil, _, hv => by cases hv
  | (j, a) :: r, _, _, .cons (v := v) (vs := vs) (fp := fp) (fq := fq) o h t d, kp, hv => by
    by_cases e : j = k
    · subst e
      have e2 : puts ((j, a) :: r) j xs' = (j, xs') :: r := by simp [puts]
      rw [e2]
      rw [valV_pos rfl] at hv
      obtain ⟨p, ws, e3, rfl, h4, _⟩ := h.ol_inv
      rw [e3] at hv
      cases hv
      subst e3
      refine .cons o (.ol h1 h2 h3) (t.mono ex fun b hb o z => kp b (List.mem_append_right _ hb) (fun y => d q (by simp) (by rw [← y]; exact hb)) o z) d
    · have e' : ¬ (g j, v).1 = g k := fun z => e (hg _ _ z)
      rw [valV_neg e'] at hv
      have e2 : puts ((j, a) :: r) k xs' = (j, a) :: puts r k xs' := by simp [puts, e]
      rw [e2]
      have hq : q ∈ fq := by
        rcases repCL_get hg k t with ⟨_, z⟩ | ⟨_, q', _, _, z, z', _⟩
        · rw [hv] at z; cases z
        · rw [hv] at z; cases z; exact z'
      exact .cons o (h.mono ex fun b hb o z => kp b (List.mem_append_left _ hb) (fun y => d b hb (by rw [y]; exact hq)) o z) (repCL_put k ex h1 h2 h3 t (fun b hb => kp b (List.mem_append_right _ hb)) hv) d
end
theorem RepCK.snoc {K : PySem.W.Frag} {F H : Hp} {k : Key} {v : V} {c : Cell} {fd : List Addr} (o : kOk k = true) (r : RepC K F H fd v c) : ∀ {fp : List Addr} {vs : List (Key × V)} {kvs : List (Key × Cell)}, RepCK K F H fp vs kvs → (∀ a ∈ fd, a ∉ fp) → RepCK K F H (fp ++ fd) (vs ++ [(k, v)]) (kvs ++ [(k, c)])
  | _, _, _, .nil, _ => by
    have z := RepCK.cons o r (RepCK.nil (K := K) (F := F) (H := H)) (fun _ _ h => nomatch h)
    rw [List.append_nil] at z
    exact z
  | _, _, _, .cons (fp := fp) (fq := fq) o' h t d, n => by
    have z := RepCK.snoc o r (fp := fq) t (fun a ha y => n a ha (List.mem_append_right _ y))
    rw [List.append_assoc]
    refine .cons o' h z fun a ha y => ?_
    rcases List.mem_append.mp y with y | y
    · exact d a ha y
    · exact n a y (List.mem_append_left _ ha)
theorem putK_out {κ : Type} [DecidableEq κ] {vs : List (κ × V)} {k : κ} {v : V} (h : valV vs k = none) : putK vs k v = vs ++ [(k, v)] := by
  unfold putK
  rw [valV_any, h]
  rfl
theorem puts_out {κ A : Type} [DecidableEq κ] {k : κ} {a : A} : ∀ {kvs : List (κ × A)}, gets kvs k = none → puts kvs k a = kvs ++ [(k, a)]
  | [], _ => rfl
  | p :: r, h => by
    unfold gets at h
    unfold puts
    split at h
    · cases h
    · rename_i e
      rw [if_neg e, puts_out h]; rfl
theorem repCL_len {κ A : Type} {g : κ → Key} {f : A → Dt} {K : PySem.W.Frag} {F H : Hp} {kvs : List (κ × List A)} {fp : List Addr} {vs : List (Key × V)} (r : RepCK K F H fp vs (encL g f kvs)) : vs.length = kvs.length := by
  rw [repCK_len r]
  unfold encL
  rw [List.length_map]
section
variable {I : Type} {X : I → Cx} {K : PySem.W.Frag} {G : Env}
theorem en_oc0 {pos : Pos} : EN X K G (.Dict [] [] pos) (.oc []) := fun F H σ fps Q k q =>
  ⟨tDNewK, fun _ => pe_dnewK, fun d hd => by
    refine q F (upd H d (.dK [])) (.ref d) [d] (Up.layH k.sub hd) (.oc upd_same (Nat.zero_le _) .nil (fun h => nomatch h) List.nodup_nil) fun a ha => ?_
    obtain rfl : a = d := by simpa using ha
    exact ⟨hd, k.sub.none hd, by rw [upd_same]; simp⟩⟩
end
section
variable {X : Cx} {K : PySem.W.Frag} {W : WX} {sv : Sv} {G : Env} {rest : List Stmt} {o : Out} {pos : Pos}
theorem run_sda {κ A : Type} [DecidableEq κ] {g : κ → Key} {i : Nat} {π : List Nat} {t ke e : Expr} {ap1 cp1 apos cpos p3 : Pos} {kvs : List (κ × List A)} {k : κ} {y : A} {G' : Env} (f : A → Dt) (hgi : ∀ a b, g a = g b → a = b) (hk : ∀ F v, Rep K F v (match g k with | .inl i => .int i | .inr s => .str s) → v = kV (g k)) (hK : X.K = K) (ht : EP (one X) K G t i π) (hg : atG G i π = some (.oc (encL g f kvs)))
    (hke : EX (one X) K G ke (match g k with | .inl i => .int i | .inr s => .str s)) (h : ∀ v, EX (one X) K (updG G i π (.hl v)) e (f y)) (hn : kvs.length + 1 ≤ big) (hn2 : ((gets kvs k).getD []).length + 1 ≤ big) (hG : updG G i π (.oc (encL g f (apps kvs k y))) = G') (kk : Run X K W sv rest G' o)
    (m : M2 X t "setdefault" ap1 ke (.List [] p3) cp1)
    (hbase : attributeBase (.Call (.Attribute t "setdefault" ap1) [ke, .List [] p3] [] cp1) "append" X.env (eval (.Call (.Attribute t "setdefault" ap1) [ke, .List [] p3] [] cp1) X.env) = eval (.Call (.Attribute t "setdefault" ap1) [ke, .List [] p3] [] cp1) X.env := by rfl)
    (hfew : ((backTo cpos (starEach [e] X.env)).all (fun x => !x.1) && (backToKw cpos (keywordEach [] X.env)).all (fun x => x.1.isSome) && decide (([e] : List Expr).length + ([] : List Keyword).length + (if ([] : List Keyword).isEmpty then 0 else 1) < 30)) = true := by rfl)
    (hline : (apos.endLine == cpos.line) = true := by rfl) (hs : starEach [e] X.env = [(false, eval e X.env)] := by rfl) (hplain : (backTo cpos (starEach ([] : List Expr) X.env)).any (·.1) = false := by rfl)
    (hsw : swapsWith (.Call (.Attribute (.Call (.Attribute t "setdefault" ap1) [ke, .List [] p3] [] cp1) "append" apos) [e] [] cpos) none pos.line X.env = pure false := by rfl) :
    Run X K W sv (.Expr (.Call (.Attribute (.Call (.Attribute t "setdefault" ap1) [ke, .List [] p3] [] cp1) "append" apos) [e] [] cpos) pos :: rest) G o := fun F H σ fps D Eo s q => by
  subst hG
  refine ⟨tSeq (tDrop (tBM X.K "list" rAppend (tDSetd (wpE (one X) t) (wpE (one X) ke) (wpE (one X) (.List [] p3))) (tCons (wpE (one X) e) tNil))) (wpSs X rest), pss_cons (ps_expr (pe_bm PySem.F.plainAttrs_list PySem.F.slot_list_append PySem.F.type_list_append mt_append (pe_dsetd pe_w1 pe_w1 pe_w1 m) (pa_cons pe_w1 pa_nil hs) hbase hfew hline hs hplain) hsw) pss_wp, ht F H σ fps _ Eo fun F0 H0 v u0 l0 => ?_⟩
  obtain ⟨v', fpc, fps1, l', r, E1, ow, ds⟩ := (Eo.up u0).take hg
  obtain rfl := l0.fun l'
  obtain ⟨p, fq, vs, rfl, rfl, hp, hl, rk, hpq, nd⟩ := r.oc_inv
  refine ⟨p, rfl, .inl ⟨vs, .inl hp⟩, hke F0 H0 σ fps _ (Eo.up u0) fun F1 H1 x u1 r1 => ?_⟩
  have ok := kOk_rep (k := g k) r1
  obtain rfl := hk F1 x r1
  refine en_lst (X := one X) (K := K) (G := G) (pos := p3) ea_nil (Nat.zero_le _) F1 H1 σ fps _ ((Eo.up u0).up u1) fun F2 H2 z fd u2 rz nz => ?_
  obtain ⟨Dn, wn, rfl, rfl, hD, _, rD⟩ := rz.ol_inv
  cases rD
  have u12 := u1.trans u2
  obtain ⟨nD1, nD2, nD3⟩ := nz Dn (by simp)
  have nD0 : H0 Dn = none := u1.hp.free nD1
  have hp2 : H2 p = some (.dK vs) := u12.hp.h hp
  have hlen := repCL_len rk
  have pD : p ≠ Dn := fun e => by subst e; rw [hp] at nD0; cases nD0
  have qD : Dn ∉ fq := fun hb => ((Eo.up u0).ownF ((ow Dn).mpr (.inr (List.mem_cons_of_mem _ hb)))).2 nD0
  have E2 : EnvOk K F2 H2 σ (updG G i π (.hl (.ref p))) fps1 := E1.up u12
  -- what is owned by the place is not by others
  have np : ∀ a, Owns fps1 a → a ≠ p ∧ a ∉ fq := fun a ha => ⟨fun e => ds p (by simp) (by rw [← e]; exact ha), fun z => ds a (List.mem_cons_of_mem _ z) ha⟩
  have fN : ∀ a, a = p ∨ a ∈ fq → F2 a = none ∧ H2 a ≠ none := fun a ha => by
    have := (Eo.up u0).ownF ((ow a).mpr (.inr (List.mem_cons.mpr ha)))
    exact ⟨u12.nw a this.1 this.2, u12.hp.n a (fun y => y) this.2⟩
  have rk2 : RepCK K F2 H2 fq vs (encL g f kvs) := rk.mono u12.fr fun a _ o z m => u12.hp.h z m
  refine ⟨vs, g k, hp2, rfl, Nat.lt_of_le_of_lt hl (Nat.lt_of_lt_of_le (Nat.lt_succ_self _) (Nat.le_trans (by decide : big + 1 ≤ big + 1) (by exact Nat.succ_le_of_lt (Nat.lt_of_lt_of_le (Nat.lt_succ_self big) (by exact Nat.le_of_ble_eq_true rfl))))), fun w hw => ?_, fun hw => ?_⟩
  · rcases repCL_get hgi k rk2 with ⟨_, z⟩ | ⟨xs, qa, ws, g1, g2, g3, g4, g5, g6⟩
    · rw [hw] at z; cases z
    · rw [hw] at g2; cases g2
      refine ⟨.inl ⟨rfl, ws, SqL.of g4⟩, h (.ref p) F2 H2 σ fps1 _ E2 fun F3 H3 yv u3 ry => ?_⟩
      have hn2' : ws.length + 1 ≤ big := by
        rw [g1] at hn2
        rw [g6.len, List.length_map]; exact hn2
      refine ⟨qa, ws, yv, rfl, rfl, u3.hp.h g4, Nat.lt_of_lt_of_le (Nat.lt_succ_self _) (Nat.le_trans hn2' big_line), ?_⟩
      have qp : qa ≠ p := fun e => hpq (by rw [← e]; exact g3)
      have sb : Sub F3 (upd H3 qa (.lst (ws ++ [yv]))) := fun a o z => by
        have hne : a ≠ qa := fun e => by subst e; rw [u3.nw a (fN a (.inr g3)).1 (fN a (.inr g3)).2] at z; cases z
        rcases u3.sb a o z with b | ⟨c, ob, b⟩
        · exact .inl (by rw [upd_ne hne]; exact b)
        · exact .inr ⟨c, ob, by rw [upd_ne hne]; exact b⟩
      have E3 : EnvOk K F3 (upd H3 qa (.lst (ws ++ [yv]))) σ (updG G i π (.hl (.ref p))) fps1 := (E2.up u3).keep (Ex.refl _) sb ((ExO.refl (O := fun a => a = qa) H3).upd (u3.hp.h g4) rfl rfl) (fun a ha (e : a = qa) => (np a ha).2 (by rw [e]; exact g3)) (fun a ha => ((E2.up u3).ownF ha).1) fun P h => ((E2.up u3).tab P h).1
      have rk3 : RepCK K F3 (upd H3 qa (.lst (ws ++ [yv]))) fq vs (encL g f (apps kvs k y)) := by
        unfold apps
        rw [g1]
        refine repCL_put hgi k u3.fr upd_same (by rw [List.length_append]; exact hn2') (by
          show RepL K F3 (ws ++ [yv]) ((xs ++ [y]).map f)
          rw [List.map_append]; exact (g6.mono u3.fr).append (.cons ry .nil)) rk2 (fun a _ hne o z m => by rw [upd_ne hne]; exact u3.hp.h z m) hw
      have hkeys : ((vs.map (·.1))).Nodup := nd
      obtain ⟨fps3, E4, o4⟩ := E3.give (atG_upd hg) (.oc (by rw [upd_ne (Ne.symm qp)]; exact u3.hp.h hp2) hl rk3 hpq hkeys) (fun a ha => by
        have z := List.mem_cons.mp ha
        refine ⟨u3.nw a (fN a z).1 (fN a z).2, ?_⟩
        by_cases e : a = qa
        · rw [e, upd_same]; simp
        · rw [upd_ne e]
          exact u3.hp.n a (fun y => y) (fN a z).2) ds
      rw [updG_upd] at E4
      refine kk F3 _ σ fps3 D E4 s (q.le (u0.le.trans ⟨u12.fr.trans u3.fr, (((u12.trans u3).hp.imp fun _ z => z.elim).upd (u3.hp.h g4) rfl ((ow qa).mpr (.inr (List.mem_cons_of_mem _ g3)))), fun a ho z z' => (u12.trans u3).nw a z z', fun a ha => ?_⟩))
      · exact .inl ((ow a).mpr ((o4 a).mp ha))
  · rcases repCL_get hgi k rk2 with ⟨g1, _⟩ | ⟨xs, qa, ws, g1, g2, g3, g4, g5, g6⟩
    · have hpn : ∀ a, a = p ∨ a ∈ fq → F2 a = none ∧ (upd H2 p (.dK (putK vs (g k) (.ref Dn)))) a ≠ none := fun a ha => by
        refine ⟨(fN a ha).1, ?_⟩
        by_cases e : a = p
        · rw [e, upd_same]; simp
        · rw [upd_ne e]; exact (fN a ha).2
      have sb2 : Sub F2 (upd H2 p (.dK (putK vs (g k) (.ref Dn)))) := fun a o z => by
        have hne : a ≠ p := fun e => by subst e; rw [(fN a (.inl rfl)).1] at z; cases z
        rcases u2.sb a o z with b | ⟨c, ob, b⟩
        · exact .inl (by rw [upd_ne hne]; exact b)
        · exact .inr ⟨c, ob, by rw [upd_ne hne]; exact b⟩
      have E2' : EnvOk K F2 (upd H2 p (.dK (putK vs (g k) (.ref Dn)))) σ (updG G i π (.hl (.ref p))) fps1 := E2.keep (Ex.refl _) sb2 ((ExO.refl (O := fun a => a = p) H2).upd hp2 rfl rfl) (fun a ha (e : a = p) => (np a ha).1 e) (fun a ha => (E2.ownF ha).1) fun P h => (E2.tab P h).1
      have hD' : (upd H2 p (.dK (putK vs (g k) (.ref Dn)))) Dn = some (.lst []) := by rw [upd_ne (Ne.symm pD)]; exact hD
      refine ⟨.inl ⟨rfl, [], SqL.of hD'⟩, h (.ref p) F2 _ σ fps1 _ E2' fun F3 H3 yv u3 ry => ?_⟩
      refine ⟨Dn, [], yv, rfl, rfl, u3.hp.h hD', Nat.le_of_ble_eq_true rfl, ?_⟩
      have nDF : F3 Dn = none := u3.nw Dn nD2 (by rw [hD']; simp)
      have sb : Sub F3 (upd H3 Dn (.lst ([] ++ [yv]))) := fun a o z => by
        have hne : a ≠ Dn := fun e => by subst e; rw [nDF] at z; cases z
        rcases u3.sb a o z with b | ⟨c, ob, b⟩
        · exact .inl (by rw [upd_ne hne]; exact b)
        · exact .inr ⟨c, ob, by rw [upd_ne hne]; exact b⟩
      have nOD : ¬ Owns fps1 Dn := fun z => (E1.ownF z).2 nD0
      have E3 : EnvOk K F3 (upd H3 Dn (.lst ([] ++ [yv]))) σ (updG G i π (.hl (.ref p))) fps1 := (E2'.up u3).keep (Ex.refl _) sb ((ExO.refl (O := fun a => a = Dn) H3).upd (u3.hp.h hD') rfl rfl) (fun a ha (e : a = Dn) => nOD (by rw [← e]; exact ha)) (fun a ha => ((E2'.up u3).ownF ha).1) fun P h => ((E2'.up u3).tab P h).1
      have rkD : RepCK K F3 (upd H3 Dn (.lst ([] ++ [yv]))) (fq ++ [Dn]) (vs ++ [(g k, .ref Dn)]) (encL g f kvs ++ [(g k, .ol ([y].map f))]) := by
        refine RepCK.snoc ok (.ol upd_same (Nat.le_of_ble_eq_true rfl) (.cons ry .nil)) (rk2.mono u3.fr fun a ha o z m => ?_) (fun a ha => by
          obtain rfl : a = Dn := by simpa using ha
          exact qD)
        have hne : a ≠ Dn := fun e => qD (by rw [← e]; exact ha)
        have hne2 : a ≠ p := fun e => hpq (by rw [← e]; exact ha)
        rw [upd_ne hne]
        exact u3.hp.h (by rw [upd_ne hne2]; exact z) m
      have rk3 : RepCK K F3 (upd H3 Dn (.lst ([] ++ [yv]))) (fq ++ [Dn]) (putK vs (g k) (.ref Dn)) (encL g f (apps kvs k y)) := by
        rw [putK_out hw]
        unfold apps
        rw [g1, puts_out g1]
        unfold encL
        rw [List.map_append]
        exact rkD
      have hl3 : (putK vs (g k) (.ref Dn)).length ≤ big := by rw [putK_out hw, List.length_append, hlen]; exact hn
      have nd3 : ((putK vs (g k) (.ref Dn)).map (·.1)).Nodup := by
        rw [putK_out hw, List.map_append]
        refine List.nodup_append.mpr ⟨nd, by simp, fun a ha b hb e => ?_⟩
        obtain rfl : b = g k := by simpa using hb
        subst e
        obtain ⟨z, hz, hz'⟩ := List.mem_map.mp ha
        have := valV_any (g k) vs
        rw [hw] at this
        have h2 : (vs.any fun kv => decide (kv.1 = g k)) = true := List.any_eq_true.mpr ⟨z, hz, decide_eq_true hz'⟩
        rw [h2] at this; cases this
      have hp3 : upd H3 Dn (.lst ([] ++ [yv])) p = some (.dK (putK vs (g k) (.ref Dn))) := by rw [upd_ne pD]; exact u3.hp.h upd_same
      obtain ⟨fps3, E4, o4⟩ := E3.give (atG_upd hg) (.oc hp3 hl3 rk3 (fun z => by
        rcases List.mem_append.mp z with z | z
        · exact hpq z
        · exact pD (by simpa using z)) nd3) (fun a ha => by
        have z : a = p ∨ a ∈ fq ∨ a = Dn := by
          rcases List.mem_cons.mp ha with z | z
          · exact .inl z
          · rcases List.mem_append.mp z with z | z
            · exact .inr (.inl z)
            · exact .inr (.inr (by simpa using z))
        by_cases e : a = Dn
        · rw [e]; exact ⟨nDF, by rw [upd_same]; simp⟩
        · have z' : a = p ∨ a ∈ fq := by
            rcases z with z | z | z
            · exact .inl z
            · exact .inr z
            · exact absurd z e
          refine ⟨u3.nw a (hpn a z').1 (hpn a z').2, ?_⟩
          rw [upd_ne e]
          exact u3.hp.n a (fun y => y) (hpn a z').2) (fun a ha z => by
        rcases List.mem_cons.mp ha with z' | z'
        · exact (np a z).1 z'
        · rcases List.mem_append.mp z' with z' | z'
          · exact (np a z).2 z'
          · exact nOD (by rw [← (by simpa using z' : a = Dn)]; exact z))
      rw [updG_upd] at E4
      refine kk F3 _ σ fps3 D E4 s (q.le (u0.le.trans ⟨u12.fr.trans u3.fr, ?_, fun a ho z z' => ?_, fun a ha => ?_⟩))
      · have op : Owns fps p := (ow p).mpr (.inr (by simp))
        have x1 : ExO (fun a => Owns fps a ∨ a = Dn) H0 (upd H2 p (.dK (putK vs (g k) (.ref Dn)))) := (u12.hp.imp fun _ z => z.elim).upd hp2 rfl (.inl op)
        have x2 := (x1.then u3.hp).upd (u := .lst ([] ++ [yv])) (u3.hp.h hD') rfl (.inr rfl)
        exact ExO.comp (ExO.refl H0) x2 fun a z y => y.elim id fun e => absurd (by rw [e]; exact nD0) z
      · have hne : a ≠ p := fun e => ho ((ow a).mpr (.inr (by rw [e]; simp)))
        refine u3.nw a (u12.nw a z z') ?_
        rw [upd_ne hne]
        exact u12.hp.n a (fun y => y) z'
      · rcases (o4 a).mp ha with y' | y'
        · exact .inl ((ow a).mpr (.inl y'))
        · rcases List.mem_cons.mp y' with y' | y'
          · exact .inl ((ow a).mpr (.inr (List.mem_cons.mpr (.inl y'))))
          · rcases List.mem_append.mp y' with y' | y'
            · exact .inl ((ow a).mpr (.inr (List.mem_cons_of_mem _ y')))
            · refine .inr ?_
              obtain rfl : a = Dn := by simpa using y'
              exact nD0
    · rw [hw] at g2; cases g2
end
end Vs
namespace Vs
open PySem PySem.Spec L2
theorem dataK_encL {κ A : Type} (g : κ → Key) (f : A → Dt) : ∀ kvs : List (κ × List A), dataK (encL g f kvs) = some (encK g (fun z => .lst (z.map f)) kvs)
  | [] => by simp only [encL, encK, List.map_nil, dataK]
  | z :: r => by
    have ih := dataK_encL g f r
    unfold encL encK at ih ⊢
    simp only [List.map_cons, dataK, Cell.data]
    rw [ih]
theorem data_oc {κ A : Type} (g : κ → Key) (f : A → Dt) (kvs : List (κ × List A)) : (Cell.oc (encL g f kvs)).data = some (.dic (encK g (fun z => .lst (z.map f)) kvs)) := by
  simp only [Cell.data]
  rw [dataK_encL]
  rfl
end Vs

/-! x in a list of whatever data; str(i); a call whose answer is dropped. -/
namespace Vs
open PySem PySem.Spec L2
def anyEq {A : Type} [BEq A] (ys : List A) (x : A) : Bool := ys.any fun z => z == x
theorem anyEq_py {A : Type} [BEq A] {f : A → Dt} {n : Nat} (q : EqT f n) (x : A) : ∀ ys : List A, ((Dt.pyL (ys.map f)).any fun z => PyData.eqv z (f x).py) = anyEq ys x
  | [] => rfl
  | y :: ys => by
    show (PyData.eqv (f y).py (f x).py || (Dt.pyL (ys.map f)).any fun z => PyData.eqv z (f x).py) = anyEq (y :: ys) x
    rw [q.eq, anyEq_py q x ys]
    rfl
section
variable {I : Type} {X : I → Cx} {K : PySem.W.Frag} {G : Env}
theorem says_inD {A : Type} [BEq A] {f : A → Dt} {n : Nat} (hu : ∀ j, (X j).A.units + 65 < cLine) (hK : ∀ j, (X j).K = K) (q : EqT f n) (hn : n ≤ 60) (x : A) (ys : List A) : Says X K .In (f x) (.lst (ys.map f)) (anyEq ys x) :=
  ⟨rInD K, fun j => hK j ▸ op_inD (hu j), fun F H v w Q u r1 r2 k => by
    have e1 : EqD (f x) (f x) (x == x) := q.d (by omega) x x
    have e2 : EqD (.lst (ys.map f)) (.lst (ys.map f)) (ys == ys) := (eqt_lst q).d (by omega) ys ys
    have d2 := r2.dp u e2.fx
    have s2 := e2.shx r2
    have ep : (Dt.lst (ys.map f)).py = .list (Dt.pyL (ys.map f)) := by simp only [Dt.py]
    rw [ep] at d2 s2
    exact ⟨(f x).py, _, r1.dp u e1.fx, d2, e1.shx r1, s2, by rw [anyEq_py q]; exact k⟩⟩
theorem says_niD {A : Type} [BEq A] {f : A → Dt} {n : Nat} (hu : ∀ j, (X j).A.units + 65 < cLine) (hK : ∀ j, (X j).K = K) (q : EqT f n) (hn : n ≤ 60) (x : A) (ys : List A) : Says X K .NotIn (f x) (.lst (ys.map f)) (!anyEq ys x) :=
  ⟨rNotInD K, fun j => hK j ▸ op_notInD (hu j), fun F H v w Q u r1 r2 k => by
    have e1 : EqD (f x) (f x) (x == x) := q.d (by omega) x x
    have e2 : EqD (.lst (ys.map f)) (.lst (ys.map f)) (ys == ys) := (eqt_lst q).d (by omega) ys ys
    have d2 := r2.dp u e2.fx
    have s2 := e2.shx r2
    have ep : (Dt.lst (ys.map f)).py = .list (Dt.pyL (ys.map f)) := by simp only [Dt.py]
    rw [ep] at d2 s2
    exact ⟨(f x).py, _, r1.dp u e1.fx, d2, e1.shx r1, s2, by rw [anyEq_py q]; exact k⟩⟩
end
theorem op_eqNil {X : Cx} (K : PySem.W.Frag) (hK : X.K = K) (hu : X.A.units + 64 < cLine) : OpR X (compareOp .Eq) (fun x y H Q => ∃ a b vs, x = .ref a ∧ y = .ref b ∧ SqL K H a vs ∧ SqL K H b [] ∧ Q (.bl vs.isEmpty) H) := by
  intro pins s σ H x y v u Q I rx ry h
  obtain ⟨a, b, vs, rfl, rfl, ea, eb, q⟩ := h
  subst hK
  obtain rfl : v = Value.ref a := rx
  obtain rfl : u = Value.ref b := ry
  obtain ⟨us, r1, p1, _⟩ := I.list (a := a) (xs := vs) ea
  obtain ⟨ws, r2, p2, _⟩ := I.list (a := b) (xs := []) eb
  cases r2
  cases vs with
  | nil =>
    cases r1
    refine SeqAt.RcAt.lists (e := fun _ => true) p1.isList p2.isList rfl (by omega) (fun j h1 h2 => absurd h1 (Nat.not_lt_zero _)) _ _ _ _ ?_
    exact ⟨.bl true, H, I, rfl, q⟩
  | cons v vs =>
    cases r1 with
    | cons a1 b1 =>
      refine SeqAt.RcAt.lists_lengths p1.isList p2.isList (by simp) (by omega) _ _ _ _ ?_
      exact ⟨.bl false, H, I, rfl, q⟩
theorem op_neNil {X : Cx} (K : PySem.W.Frag) (hK : X.K = K) (hu : X.A.units + 64 < cLine) : OpR X (compareOp .NotEq) (fun x y H Q => ∃ a b vs, x = .ref a ∧ y = .ref b ∧ SqL K H a vs ∧ SqL K H b [] ∧ Q (.bl (!vs.isEmpty)) H) := by
  intro pins s σ H x y v u Q I rx ry h
  obtain ⟨a, b, vs, rfl, rfl, ea, eb, q⟩ := h
  subst hK
  obtain rfl : v = Value.ref a := rx
  obtain rfl : u = Value.ref b := ry
  obtain ⟨us, r1, p1, _⟩ := I.list (a := a) (xs := vs) ea
  obtain ⟨ws, r2, p2, _⟩ := I.list (a := b) (xs := []) eb
  cases r2
  cases vs with
  | nil =>
    cases r1
    refine SeqAt.RcNeAt.lists (e := fun _ => true) p1.isList p2.isList rfl (by omega) (fun j h1 h2 => absurd h1 (Nat.not_lt_zero _)) _ _ _ _ ?_
    exact ⟨.bl false, H, I, rfl, q⟩
  | cons v vs =>
    cases r1 with
    | cons a1 b1 =>
      refine SeqAt.RcNeAt.lists_lengths p1.isList p2.isList (by simp) (by omega) _ _ _ _ ?_
      exact ⟨.bl true, H, I, rfl, q⟩
section
variable {I : Type} {X : I → Cx} {K : PySem.W.Frag} {G : Env}
theorem nil_len {K : PySem.W.Frag} {F : Hp} {A : Type} {f : A → Dt} {xs : List A} {vs : List V} (r : RepL K F vs (xs.map f)) : vs.isEmpty = xs.isEmpty := by
  cases xs with
  | nil => cases r; rfl
  | cons x xs => cases r; rfl
theorem says_eqNil {A : Type} {f : A → Dt} (hu : ∀ j, (X j).A.units + 64 < cLine) (hK : ∀ j, (X j).K = K) (xs : List A) : Says X K .Eq (.lst (xs.map f)) (.lst []) xs.isEmpty :=
  ⟨_, fun j => op_eqNil K (hK j) (hu j), fun F H v w Q u r1 r2 k => by
    cases r1 with
    | lst h1 _ l1 =>
      cases r2 with
      | lst h2 _ l2 =>
        cases l2
        exact ⟨_, _, _, rfl, rfl, SqL.of (u.lst h1), SqL.of (u.lst h2), by rw [nil_len l1]; exact k⟩⟩
theorem says_neNil {A : Type} {f : A → Dt} (hu : ∀ j, (X j).A.units + 64 < cLine) (hK : ∀ j, (X j).K = K) (xs : List A) : Says X K .NotEq (.lst (xs.map f)) (.lst []) (!xs.isEmpty) :=
  ⟨_, fun j => op_neNil K (hK j) (hu j), fun F H v w Q u r1 r2 k => by
    cases r1 with
    | lst h1 _ l1 =>
      cases r2 with
      | lst h2 _ l2 =>
        cases l2
        exact ⟨_, _, _, rfl, rfl, SqL.of (u.lst h1), SqL.of (u.lst h2), by rw [nil_len l1]; exact k⟩⟩
def strI (i : Int) : Str := Str.ofString (toString i)
def strIOk (i : Int) : Prop := i.natAbs.log2 < 1920 ∧ goodB (strI i) = true
theorem ex_strI {e : Expr} {p pos : Pos} {i : Int} (h : EX X K G e (.int i)) (hz : strIOk i) (hg : ∀ j, Gl (X j) "str") (hm : ∀ j, (X j).mg "str" = none)
    (he : ∀ j, starEach [e] (X j).env = [(false, eval e (X j).env)] := by intro _; rfl) : EX X K G (.Call (.Name "str" p) [e] [] pos) (.str (strI i)) := fun F H σ fps Q k q =>
  ⟨tCB _ (tCons (wpE X e) tNil), fun j => pe_callTy call_str_int (hg j) (hm j) (by decide +kernel) (pa_cons (pe_wp j) pa_nil (he j)) (by decide) (by decide) (he j) rfl, h F H σ fps _ k fun F1 H1 v u r => by
    cases r
    exact ⟨i, rfl, hz.1, q F1 H1 _ u (.str _ hz.2)⟩⟩
end
theorem units5 {A : Around} {k : Nat} (hr : Room k A) : A.units + 65 < cLine := by have := hr.un; omega
end Vs

/-! for over reversed(xs) and zip(xs, ys); texts between texts. -/
namespace Vs
open PySem PySem.Spec L2
section
variable {X : Cx} {K : PySem.W.Frag} {G : Env} {tg : Expr}
/-- reversed(list) -/
theorem src_rev {I : Type} {X : I → Cx} {A : Type} {e : Expr} {p pos : Pos} {xs : List A} (f : A → Dt) (hK : ∀ i, (X i).K = K) (hg : ∀ i, Gl (X i) "reversed") (hm : ∀ i, (X i).mg "reversed" = none) (h : EX X K G e (.lst (xs.map f))) (hsa : ∀ i, starEach [e] (X i).env = [(false, eval e (X i).env)] := by intro _; rfl)
    (hs : ∀ i x, foldedSetIterable (.Call (.Name "reversed" p) [e] [] pos) (X i).env x = pure x := by intro _ _; rfl) : ISrc X K G tg (.Call (.Name "reversed" p) [e] [] pos) (xs.reverse.map f) :=
  ⟨iRev K (tCons (wpE X e) tNil), fun i => hK i ▸ pi_reversed (hg i) (hm i) (pa_cons (pe_wp i) pa_nil (hsa i)) (hsa i), hs, fun F H σ fps R E q => h F H σ fps _ E fun F1 H1 v u r => by
    cases r with
    | lst h1 l1 r1 =>
      rename_i a vs
      have hl := r1.len
      rw [List.length_map] at hl
      refine ⟨a, vs, rfl, SqL.of (u.sb.lst h1), q _ F1 H1 u ⟨fun i F' H' e s _ hi => ?_, fun i F' H' e s _ hi => ?_, fun i d F' H' v H'' e s _ hd hy => ?_⟩⟩
      · rw [List.length_map, List.length_reverse] at hi
        show vs.length ≤ i
        omega
      · rw [List.length_map, List.length_reverse] at hi
        refine ⟨by omega, vs, vs[vs.length - 1 - i]'(by omega), SqL.of (s.lst (e _ _ h1)), by simp [show vs.length - 1 - i < vs.length by omega]⟩
      · obtain ⟨rfl, hv⟩ := hy
        have hi : i < xs.length := by
          have := (List.getElem?_eq_some_iff.mp hd).1
          rw [List.length_map, List.length_reverse] at this
          exact this
        have hd2 : (xs.map f)[vs.length - 1 - i]? = some d := by
          rw [List.map_reverse, List.getElem?_reverse (by rw [List.length_map]; exact hi), List.length_map] at hd
          rw [hl]; exact hd
        obtain ⟨w, h2, h3⟩ := r1.get hd2
        have := hv vs (SqL.of (s.lst (e _ _ h1)))
        rw [h2] at this; cases this
        exact ⟨F', Up.refl s, h3.mono e⟩⟩
/-- zip(list, list) -/
theorem src_zip {I : Type} {X : I → Cx} {A B : Type} {e e2 : Expr} {p pos tpos : Pos} {elts : List Expr} {kk : Nat} {xs : List A} {ys : List B} (f : A → Dt) (g : B → Dt) (hK : ∀ i, (X i).K = K) (hg : ∀ i, Gl (X i) "zip") (hm : ∀ i, (X i).mg "zip" = none) (h : EX X K G e (.lst (xs.map f))) (h' : EX X K G e2 (.lst (ys.map g)))
    (hsa : ∀ i, starEach [e, e2] (X i).env = [(false, eval e (X i).env), (false, eval e2 (X i).env)] := by intro _; rfl) (hsb : ∀ i, starEach [e2] (X i).env = [(false, eval e2 (X i).env)] := by intro _; rfl)
    (hs1 : ∀ i, starEach [e, e2] (X i).env = (false, eval e (X i).env) :: starEach [e2] (X i).env := by intro _; rfl) (hpl : ∀ i, (backTo pos (starEach [e2] (X i).env)).any (·.1) = false := by intro _; rfl)
    (hs : ∀ i x, foldedSetIterable (.Call (.Name "zip" p) [e, e2] [] pos) (X i).env x = pure x := by intro _ _; rfl) : ISrc X K G (.Tuple elts kk tpos) (.Call (.Name "zip" p) [e, e2] [] pos) ((List.zip xs ys).map fun z : A × B => Dt.tup [f z.1, g z.2]) :=
  ⟨iZip K (tCons (wpE X e) (tCons (wpE X e2) tNil)), fun i => hK i ▸ pi_zip (hg i) (hm i) (pa_cons (pe_wp i) (pa_cons (pe_wp i) pa_nil (hsb i)) (by rw [hsa, hsb])) (hs1 i) (hpl i), hs, fun F H σ fps R E q => h F H σ fps _ E fun F0 H0 v0 u0 r0 => h' F0 H0 σ fps _ (E.up u0) fun F1 H1 v u r => by
    cases r0 with
    | lst h0 l0 r0 =>
      rename_i b ws
      cases r with
      | lst h1 l1 r1 =>
        rename_i a vs
        have g0 := u.fr _ _ h0
        have r0' := r0.mono u.fr
        have hl := r1.len
        have hl0 := r0.len
        rw [List.length_map] at hl hl0
        refine ⟨b, a, ws, vs, rfl, SqL.of (u.sb.lst g0), SqL.of (u.sb.lst h1), q _ F1 H1 (u0.trans u) ⟨fun i F' H' e s _ hi => ?_, fun i F' H' e s _ hi => ?_, fun i d F' H' v H'' e s _ hd hy => ?_⟩⟩
        · rw [List.length_map, List.length_zip] at hi
          exact ⟨ws, vs, SqL.of (s.lst (e _ _ g0)), SqL.of (s.lst (e _ _ h1)), by omega⟩
        · rw [List.length_map, List.length_zip] at hi
          exact ⟨ws, vs, ws[i]'(by omega), vs[i]'(by omega), SqL.of (s.lst (e _ _ g0)), SqL.of (s.lst (e _ _ h1)), by simp [show i < ws.length by omega], by simp [show i < vs.length by omega]⟩
        · obtain ⟨T, x, y, rfl, hT, rfl, hx, hy⟩ := hy
          have hi : i < xs.length ∧ i < ys.length := by
            have := (List.getElem?_eq_some_iff.mp hd).1
            rw [List.length_map, List.length_zip] at this
            omega
          have hx' := hx ws (SqL.of (s.lst (e _ _ g0)))
          have hy' := hy vs (SqL.of (s.lst (e _ _ h1)))
          have ex : (xs.map f)[i]? = some (f xs[i]) := by simp [hi.1]
          have ey : (ys.map g)[i]? = some (g ys[i]) := by simp [hi.2]
          obtain ⟨w1, a1, a2⟩ := r0'.get ex
          obtain ⟨w2, b1, b2⟩ := r1.get ey
          rw [a1] at hx'; cases hx'
          rw [b1] at hy'; cases hy'
          have hd2 : d = Dt.tup [f xs[i], g ys[i]] := by
            have hz : (List.zip xs ys)[i]? = some (xs[i], ys[i]) := by rw [List.getElem?_zip_eq_some]; exact ⟨by simp [hi.1], by simp [hi.2]⟩
            rw [List.getElem?_map, hz] at hd
            cases hd; rfl
          subst hd2
          have nF : F' T = none := s.none hT
          exact ⟨upd F' T (.tup [x, y]), Up.lay s hT, .tup upd_same (Nat.le_of_ble_eq_true rfl) (.cons ((a2.mono e).mono (Ex.new nF)) (.cons ((b2.mono e).mono (Ex.new nF)) .nil))⟩⟩
end
/-! texts between texts -/
def leS (i j : Str) : Bool := !decide (j.cps.toList < i.cps.toList)
section
variable {I : Type} {X : I → Cx} {K : PySem.W.Frag} {G : Env}
theorem says_leS {i j : Str} : Says X K .LtE (.str i) (.str j) (leS i j) := ⟨_, fun _ => op_le_str, fun F H v w Q u r1 r2 q => by
  cases r1; cases r2
  exact ⟨i, j, rfl, rfl, q⟩⟩
abbrev rLeS : R2 := fun x y H Q => ∃ i j, x = .str i ∧ y = .str j ∧ Q (.bl (leS i j)) H
theorem ex_leLeS {a b c : Expr} {pos : Pos} {i j k : Str} (ha : EX X K G a (.str i)) (hb : EX X K G b (.str j)) (hc : EX X K G c (.str k)) (hm : lastMarks [.LtE, .LtE] [b, c] = false := by rfl) : EX X K G (.Compare a [.LtE, .LtE] [b, c] pos) (.bl (leS i j && leS j k)) := fun F H σ fps Q e q =>
  ⟨tChain rLeS rLeS (wpE X a) (wpE X b) (wpE X c), fun n => pe_chain op_le_str op_le_str (pe_wp n) (pe_wp n) (pe_wp n) hm, ha F H σ fps _ e fun F1 H1 v u r => hb F1 H1 σ fps _ (e.up u) fun F2 H2 v2 u2 r2 => by
    cases r; cases r2
    refine ⟨i, j, rfl, rfl, leS i j, rfl, ?_⟩
    cases hf : leS i j with
    | true =>
      show wpE X c σ H2 _
      refine hc F2 H2 σ fps _ ((e.up u).up u2) fun F3 H3 v3 u3 r3 => ?_
      cases r3
      refine ⟨j, k, rfl, rfl, ?_⟩
      have := q F3 H3 (.bl (leS i j && leS j k)) ((u.trans u2).trans u3) (.bl _)
      rw [hf] at this
      exact this
    | false =>
      show Q (.bl false) H2
      have := q F2 H2 (.bl (leS i j && leS j k)) (u.trans u2) (.bl _)
      rw [hf] at this
      exact this⟩
theorem eb_leLeS {a b c : Expr} {pos : Pos} {i j k : Str} (ha : EX X K G a (.str i)) (hb : EX X K G b (.str j)) (hc : EX X K G c (.str k)) (hm : lastMarks [.LtE, .LtE] [b, c] = false := by rfl) : EB X K G (.Compare a [.LtE, .LtE] [b, c] pos) (leS i j && leS j k) := fun F H σ fps Q e q =>
  ⟨fun σ H Q => tChain rLeS rLeS (wpE X a) (wpE X b) (wpE X c) σ H fun z H' => ∃ k, z = .bl k ∧ Q k H', fun n => pt_chain op_le_str op_le_str (pe_wp n) (pe_wp n) (pe_wp n) hm, ha F H σ fps _ e fun F1 H1 v u r => hb F1 H1 σ fps _ (e.up u) fun F2 H2 v2 u2 r2 => by
    cases r; cases r2
    refine ⟨i, j, rfl, rfl, leS i j, rfl, ?_⟩
    cases hf : leS i j with
    | true =>
      show wpE X c σ H2 _
      refine hc F2 H2 σ fps _ ((e.up u).up u2) fun F3 H3 v3 u3 r3 => ?_
      cases r3
      refine ⟨j, k, rfl, rfl, ?_⟩
      have := q F3 H3 ((u.trans u2).trans u3)
      rw [hf] at this
      exact ⟨_, rfl, this⟩
    | false =>
      have := q F2 H2 (u.trans u2)
      rw [hf] at this
      exact ⟨_, rfl, this⟩⟩
end
end Vs

/-! sorted(list of texts), below 64. -/
namespace Vs
open PySem PySem.Spec L2
theorem leS_iff {i j : Str} : leS i j = true ↔ i.cps.toList ≤ j.cps.toList := by
  unfold leS
  rw [Bool.not_eq_true', decide_eq_false_iff_not]
  exact List.not_lt
theorem leS_trans (a b c : Str) (h : leS a b = true) (h' : leS b c = true) : leS a c = true :=
  leS_iff.mpr (List.le_trans (leS_iff.mp h) (leS_iff.mp h'))
theorem leS_total (a b : Str) : (leS a b || leS b a) = true := by
  rw [Bool.or_eq_true, leS_iff, leS_iff]
  exact List.le_total _ _
theorem leS_anti {a b : Str} (h : leS a b = true) (h' : leS b a = true) : a = b := by
  have e := List.le_antisymm (leS_iff.mp h) (leS_iff.mp h')
  exact TL.ext_tl e
def sortT (xs : List Str) : List Str := xs.mergeSort leS
theorem sortT_perm (xs : List Str) : (sortT xs).Perm xs := List.mergeSort_perm _ _
theorem sortT_pair (xs : List Str) : (sortT xs).Pairwise fun a b => leS a b = true := List.pairwise_mergeSort leS_trans leS_total xs
theorem sortT_uniq {xs ys : List Str} (hp : ys.Perm xs) (hs : ys.Pairwise fun a b => leS a b = true) : ys = sortT xs :=
  List.Perm.eq_of_pairwise (fun a b _ _ h h' => leS_anti h h') hs (sortT_pair xs) (hp.trans (sortT_perm xs).symm)
theorem rising_pair : ∀ {r : List Str} {x : Str}, PyProof.Rows.risingS x r = true → (x :: r).Pairwise fun a b => leS a b = true
  | [], x, _ => List.pairwise_singleton _ _
  | y :: r, x, h => by
    unfold PyProof.Rows.risingS at h
    obtain ⟨h1, h2⟩ := Bool.and_eq_true_iff.mp h
    have ih := rising_pair h2
    have hxy : leS x y = true := by
      unfold leS
      rw [PyProof.Rows.le_meets]
      exact h1
    rw [List.pairwise_cons]
    refine ⟨fun z hz => ?_, ih⟩
    rcases List.mem_cons.mp hz with rfl | hz
    · exact hxy
    · exact leS_trans _ _ _ hxy ((List.pairwise_cons.mp ih).1 z hz)
theorem sorted_pair {ys : List Str} (h : PyProof.Rows.sortedS ys = true) : ys.Pairwise fun a b => leS a b = true := by
  cases ys with
  | nil => exact List.Pairwise.nil
  | cons x r => exact rising_pair h
section
variable {I : Type} {X : I → Cx} {K : PySem.W.Frag} {G : Env}
theorem x_sortT {e : Expr} {p pos : Pos} {xs : List Str} (hK : ∀ j, (X j).K = K) (h : ES X K G e false (xs.map Dt.str)) (hl : xs.length < 64) (hg : ∀ j, Gl (X j) "sorted") (hm : ∀ j, (X j).mg "sorted" = none)
    (he : ∀ j, starEach [e] (X j).env = [(false, eval e (X j).env)] := by intro _; rfl) : EN X K G (.Call (.Name "sorted" p) [e] [] pos) (.ol ((sortT xs).map Dt.str)) := fun F H σ fps Q k q =>
  ⟨tCB (rSortedS K) (tCons (wpE X e) tNil), fun j => hK j ▸ pe_callB cr_sortedS (hg j) (hm j) (by decide +kernel) (pa_cons (pe_wp j) pa_nil (he j)) (by decide) (by decide) (he j) rfl, h F H σ fps _ k fun F1 H1 a vs u r l rl => by
    have hv : vs = xs.map V.str ∧ ∀ x ∈ xs, goodB x = true := by
      clear r l h hl q k
      revert rl
      generalize vs = ws
      intro rl
      induction xs generalizing ws with
      | nil => cases rl; exact ⟨rfl, fun x hx => nomatch hx⟩
      | cons x xs ih =>
        cases rl with
        | cons r1 rl =>
          cases r1
          rename_i hg1
          obtain ⟨e1, e2⟩ := ih _ rl
          refine ⟨by rw [e1]; rfl, fun y hy => ?_⟩
          rcases List.mem_cons.mp hy with rfl | hy
          · exact hg1
          · exact e2 y hy
    obtain ⟨rfl, hgood⟩ := hv
    refine ⟨a, xs, rfl, r, hl, fun ys D hp hs hD => ?_⟩
    obtain rfl := sortT_uniq hp (sorted_pair hs)
    have n0 : H D = none := u.hp.free hD
    have rep : ∀ zs : List Str, (∀ z ∈ zs, goodB z = true) → RepL K F1 (zs.map V.str) (zs.map Dt.str) := by
      intro zs
      induction zs with
      | nil => intro _; exact .nil
      | cons z zs ih => intro hz; exact .cons (.str z (hz z (by simp))) (ih fun y hy => hz y (List.mem_cons_of_mem _ hy))
    refine q F1 (upd H1 D (.lst ((sortT xs).map V.str))) (.ref D) [D] (u.trans (Up.layH u.sb hD)) (.ol upd_same (by rw [List.length_map, hp.length_eq]; exact Nat.le_trans (Nat.le_of_lt hl) (Nat.le_of_ble_eq_true rfl)) (rep _ fun z hz => hgood z (hp.mem_iff.mp hz))) fun b hb => ?_
    obtain rfl : b = D := by simpa using hb
    exact ⟨n0, u.sb.none hD, by rw [upd_same]; simp⟩⟩
end
end Vs

/-! sorted(dict), sorted of texts and of pairs (number, text), of any length. -/
namespace Vs
open PySem PySem.Spec L2 PyProof.Rows PySem.W
section
variable {prog : Program} {w : World} {A : Around} {E : Value → Shared → Prop} {s : Shared}
theorem collect_src {T : String} {r d : Addr} {n : Nat} {P : Nat → Value → Prop} {OK : Heap → Prop} {Q : List Value → Shared → Prop} (K : KdlSrc prog w T r d n P OK) (hh : A.handled = none) (hok : OK s.heap) (hn : n ≤ sizeLine)
    (hQ : ∀ (h' : Heap) (tk : Nat) (acc : Array Value), (∀ b o, s.heap.get? b = some o → h'.get? b = some o) → ItemsOf P acc n → Q acc.toList { s with heap := h', toks := tk }) :
    wpAny (model prog w) A (collect (.ref r)) Q E s := by
  have hlt := K.there _ hok
  unfold collect
  refine wpAny_bind (wpAny_runValue (codeAny_builtin F.entry_proto_collect ?_))
  rw [Around.under_plainId F.plain_proto_collect _]
  show wpAny _ A.in1 (newList [] >>= fun l => again (.builtin "list.__iadd__" ⟨[l, .ref r], []⟩)) _ _ s
  refine wpAny_bind (wpAny_newObj_type ?_)
  refine wpAny_pure ⟨plainId_quiet F.plain_list_iadd _, codeAny_builtin F.entry_list_iadd ?_⟩
  rw [Around.under_plainId F.plain_list_iadd _]
  have hS : (s.heap.push { cls := .type "list", data := .seq ([] : List Value).toArray }).get? s.heap.objs.size = some { cls := .type "list", data := .seq ([] : List Value).toArray } := Heap.get?_push_size _ rfl
  show wpAny _ A.in1 (Builtin.List.listExtendWith (.ref s.heap.objs.size) (.ref r) (.ref s.heap.objs.size)) _ _ _
  refine kdl_extend (R := fun r s' => match r with
    | .ok (.ret v) => wpAny (model prog w) A (match v with
      | .ref a => do
        match (← load a).data with
        | .seq xs _ => pure xs.toList
        | _ => unsupported "internal:collect"
      | _ => unsupported "internal:collect") Q E s'
    | .ok _ => False
    | .error e => E e s') (s := { s with heap := s.heap.push { cls := .type "list", data := .seq ([] : List Value).toArray } }) K hh (K.keep _ _ hok fun b _ o e => Heap.get?_push_of_some _ e) s.heap.objs.size (Nat.ne_of_gt hlt.1) (Nat.ne_of_gt hlt.2) (.ref s.heap.objs.size) 0 hS (fun h' tk acc c hk hD hacc => ?_) hn
  show wpAny _ A (load s.heap.objs.size >>= _) _ _ _
  refine wpAny_bind (wpAny_load hD ?_)
  exact wpAny_pure (hQ h' tk acc (fun b o e => hk b o (Nat.ne_of_lt (Heap.lt_size e)) (Heap.get?_push_of_some _ e)) hacc)
end

/-! ### data in order -/
structure SoT {A : Type} (f : A → Dt) (le : A → A → Bool) : Prop where
  fl : ∀ x, (f x).flat = true
  dp : ∀ x, (f x).py.depth ≤ 8
  al : ∀ x y, alike (f x).py (f y).py = true
  so : ∀ xs : List A, Sortable (xs.map fun x => (f x).py)
  le : dataLe false (fun x => (f x).py) = le
theorem le_leS (a b : Str) : decide (a.cps.toList ≤ b.cps.toList) = leS a b := by
  have h := @leS_iff a b
  cases e : leS a b with
  | true => exact decide_eq_true (h.mp e)
  | false => exact decide_eq_false fun z => by rw [h.mpr z] at e; cases e
theorem sot_str : SoT Dt.str leS where
  fl := fun _ => rfl
  dp := fun x => by simp [Dt.py, PyData.depth]
  al := fun _ _ => by simp [Dt.py, alike]
  so := fun xs => Sortable.others fun b => ⟨by simp [Dt.py], by simp [Dt.py]⟩
  le := by
    have e := dataLe_str (β := Str) id
    refine Eq.trans ?_ (e.trans ?_)
    · congr 1
    · funext a b
      exact le_leS a b
/-- a whole number, then a text -/
def leIS (p q : Int × Str) : Bool := decide (p.1 < q.1) || (decide (p.1 = q.1) && leS p.2 q.2)
theorem dataLt_is (x x' : Int) (y y' : Str) : dataLt (.tuple [.int x, .str y]) (.tuple [.int x', .str y']) = (decide (x < x') || (decide (x = x') && !leS y' y)) := by
  rw [dataLt_pair (by simp [alike]) (by simp [alike]), dataLt_int]
  simp only [PyData.eqv, beq_iff_eq]
  have hs : dataLt (.str y) (.str y') = !leS y' y := by
    have e := congrFun (congrFun (dataLe_str (β := Str) id) y') y
    have e2 : (!dataLt (.str y) (.str y')) = decide (y'.cps.toList ≤ y.cps.toList) := e
    rw [le_leS] at e2
    rw [← e2, Bool.not_not]
  by_cases h1 : x = x'
  · subst h1
    by_cases h2 : y = y'
    · subst h2
      have : leS y y = true := leS_iff.mpr (List.le_refl _)
      simp [this]
    · simp [h2, hs]
  · simp [h1]
theorem dataLe_is {β : Type} (x : β → Int) (y : β → Str) : dataLe false (fun b => .tuple [.int (x b), .str (y b)]) = fun p q => leIS (x p, y p) (x q, y q) := by
  funext p q
  show (!dataLt (.tuple [.int (x q), .str (y q)]) (.tuple [.int (x p), .str (y p)])) = _
  rw [dataLt_is]
  unfold leIS
  generalize leS (y p) (y q) = z
  rcases Int.lt_trichotomy (x p) (x q) with h | h | h
  · have h1 : ¬ x q < x p := by omega
    have h2 : ¬ x q = x p := by omega
    simp [h, h1, h2]
  · have h1 : ¬ x q < x p := by omega
    have h2 : ¬ x p < x q := by omega
    simp [h, h1, h2]
  · have h1 : ¬ x p < x q := by omega
    have h2 : ¬ x p = x q := by omega
    simp [h, h1, h2]
theorem sot_is : SoT (fun z : Int × Str => Dt.tup [.int z.1, .str z.2]) leIS where
  fl := fun _ => rfl
  dp := fun x => by simp [Dt.py, Dt.pyL, PyData.depth, PyData.depthAll]
  al := fun _ _ => by simp [Dt.py, Dt.pyL, alike, alikeAll]
  so := fun xs => Sortable.tuples fun b => ⟨.int b.1, [.str b.2], by simp [Dt.py, Dt.pyL]⟩
  le := by
    refine Eq.trans ?_ (dataLe_is (β := Int × Str) (·.1) (·.2))
    congr 1
section
variable {X : Cx} {A : Type} {f : A → Dt} {le : A → A → Bool}
/-- values of some data -/
def RV (K : PySem.W.Frag) (F : Hp) (f : A → Dt) (v : Value) (x : A) : Prop := ∃ u : V, RelV u v ∧ Rep K F u (f x)
theorem each_rv {K : PySem.W.Frag} {F : Hp} : ∀ {us : List V} {vs : List Value} {xs : List A}, Vals us vs → RepL K F us (xs.map f) → EachIs (RV K F f) vs xs
  | _, _, [], .nil, .nil => .nil
  | _, _, x :: xs, .cons h t, .cons r rs => .cons ⟨_, h, r⟩ (each_rv t rs)
theorem rv_each {K : PySem.W.Frag} {F : Hp} : ∀ {vs : List Value} {xs : List A}, EachIs (RV K F f) vs xs → ∃ us, Vals us vs ∧ RepL K F us (xs.map f)
  | _, _, .nil => ⟨[], .nil, .nil⟩
  | _, _, .cons ⟨u, h, r⟩ t => by
    obtain ⟨us, a, b⟩ := rv_each t
    exact ⟨u :: us, .cons h a, .cons r b⟩
def rSortG (K : PySem.W.Frag) (f : A → Dt) (le : A → A → Bool) : List V → Hp → VK → Prop := fun vs H Q => ∃ (F : Hp) (a : Addr) (us : List V) (xs : List A), vs = [V.ref a] ∧ Sub F H ∧ SqL K H a us ∧ RepL K F us (xs.map f) ∧ xs.length ≤ big ∧
  ∀ D ys, H D = none → RepL K F ys ((xs.mergeSort le).map f) → Q (.ref D) (upd H D (.lst ys))
theorem cr_sortG (q : SoT f le) (hu : X.A.units + 64 < cLine) : CallR X (.builtin "sorted") (rSortG X.K f le) := by
  intro pins s σ H vs us Q I r h
  obtain ⟨F, a, vv, xs, rfl, sb, hs, rl, hl, qq⟩ := h
  obtain ⟨its, rv, hli, hz⟩ := I.list hs
  obtain ⟨u, rfl, ru⟩ := vals1 r
  obtain rfl : u = Value.ref a := ru
  have e := each_rv rv rl
  refine sorted_data (enc := fun x => (f x).py) hli.isList e (e.mono fun v x ⟨u, h1, h2⟩ => Dp.reads I _ _ _ (h2.dp sb (q.fl x)) h1) (AllAlike.of fun x y => q.al x y) (q.so xs) (Nat.le_trans hl big_line) (fun x _ => ?_) fun out ho eo => ?_
  · have := q.dp x
    omega
  · rw [q.le] at eo
    obtain ⟨ys, y1, y2⟩ := rv_each eo
    obtain ⟨n, hn⟩ := sortedAll_at s.heap its out.toArray
    have nD := I.hok.fresh (Nat.le_succ s.heap.objs.size)
    refine ⟨.ref (s.heap.objs.size + 1), upd H (s.heap.objs.size + 1) (.lst ys), I.laid (t' := s.toks) (fun b o z => sortedAll_old z) (Nat.le_succ _) ⟨?_, out, n, y1, hn⟩, rfl, qq _ ys nD y2⟩
    rw [y1.length, ho]
    exact Nat.le_trans hl big_line
/-- sorted(d): its keys -/
def rSortKG (K : PySem.W.Frag) (f : A → Dt) (le : A → A → Bool) : List V → Hp → VK → Prop := fun vs H Q => ∃ (F : Hp) (a : Addr) (kvs : List (Key × V)) (xs : List A), vs = [V.ref a] ∧ Sub F H ∧ Rd H a (.dK kvs) ∧ RepL K F (kvs.map fun kv => kV kv.1) (xs.map f) ∧ xs.length ≤ big ∧
  ∀ D ys, H D = none → RepL K F ys ((xs.mergeSort le).map f) → Q (.ref D) (upd H D (.lst ys))
theorem cr_sortKG (q : SoT f le) (hp : ∀ x, (∃ i, f x = .int i) ∨ ∃ s, f x = .str s) (hcalm : X.calm = true) (hu : X.A.units + 64 < cLine) : CallR X (.builtin "sorted") (rSortKG X.K f le) := by
  intro pins s σ H vs us Q I r h
  obtain ⟨F, a, kvs, xs, rfl, sb, hd, rl, hl, qq⟩ := h
  obtain ⟨u, rfl, ru⟩ := vals1 r
  obtain rfl : u = Value.ref a := ru
  obtain ⟨z, lo, vs, rel, dd⟩ := dk_rd I.hok hd
  obtain ⟨ep, hat⟩ := dd.dictAt
  have ek : (kvs.map fun kv => kV kv.1) = vs.map fun p => kV p.1 := by
    have e := congrArg (List.map kV) rel.keys
    rw [List.map_map, List.map_map] at e
    exact e
  refine Calls.call_function_entry kind_sorted plain_sorted entry_sorted (args_sorted1 _) ?_
  unfold Builtin.«sorted»
  refine wpAny_bind (m := checkCount "sorted" 1 1 _) (wpAny_pure ?_)
  have hh := I.ok.hd hcalm
  refine wpAny_bind (collect_src (kdl_dict (knd := mixKind X.prog X.w) (kvs := vs) (ep := ep) lo) hh hat (by rw [← rel.length]; exact z) fun h' tk acc hk hacc => ?_)
  have hv : Vals (vs.map fun p => kV p.1) acc.toList := keys_at (by rw [Array.length_toList]; exact hacc.1) fun j v e => hacc.2 j v (by rw [← Array.getElem?_toList]; exact e)
  rw [ek] at rl
  have e := each_rv hv rl
  have hL : acc.toList.length ≤ sizeLine := by rw [e.length]; exact Nat.le_trans hl big_line
  refine wpAny_bind (wpAny_newList ?_ hL)
  have I1 : Inv X pins σ H { s with heap := h', toks := tk } := I.kept hk
  have hob : (h'.push (seqObj "list" acc.toList.toArray 0)).get? h'.objs.size = some (seqObj "list" acc.toList.toArray 0) := Heap.get?_push_size _ rfl
  have kp : ∀ b o, h'.get? b = some o → (h'.push (seqObj "list" acc.toList.toArray 0)).get? b = some o := fun b o e => Heap.get?_push_of_some _ e
  refine wpAny_bind (wpAny_holding ?_)
  refine list_sort_data (s := { s with heap := h'.push (seqObj "list" acc.toList.toArray 0), toks := tk }) (enc := fun x => (f x).py) hob e ?_ (AllAlike.of fun x y => q.al x y) (q.so xs) (Nat.le_trans hl big_line) (fun x _ => ?_) fun out ho eo => ?_
  · refine e.mono fun v x ⟨u, h1, h2⟩ => ⟨[], ?_, by simp⟩
    rcases hp x with ⟨i, e1⟩ | ⟨i, e1⟩
    · rw [e1] at h2 ⊢
      cases h2
      obtain ⟨t, rfl⟩ := h1
      simp only [Dt.py]
      exact .int _ _
    · rw [e1] at h2 ⊢
      cases h2
      obtain ⟨t, rfl⟩ := h1
      simp only [Dt.py]
      exact .str _ _
  · have h0 : (f x).py.depth ≤ 8 := q.dp x
    show X.A.in1.units + 1 + (f x).py.depth < cLine
    show X.A.units + 1 + 1 + (f x).py.depth < cLine
    omega
  · rw [q.le] at eo
    obtain ⟨ys, y1, y2⟩ := rv_each eo
    obtain ⟨n, hn⟩ := sortedHeap_at (vs := acc.toList) (out := out.toArray) hob
    have nD := I1.hok.fresh (Nat.le_refl h'.objs.size)
    refine wpAny_pure ⟨_, rfl, ?_⟩
    refine ⟨.ref h'.objs.size, upd H h'.objs.size (.lst ys), I1.laid (t' := tk) (fun b o z => ?_) (Nat.le_refl _) ⟨?_, out, n, y1, hn⟩, rfl, qq _ ys nD y2⟩
    · show (sortedHeap (h'.push (seqObj "list" acc.toList.toArray 0)) h'.objs.size acc.toList out.toArray).get? b = some o
      rw [sortedHeap_old (Nat.ne_of_lt (Heap.lt_size z)) (show b < (h'.push (seqObj "list" acc.toList.toArray 0)).objs.size by have := Heap.lt_size z; rw [Heap.size_push]; exact Nat.lt_succ_of_lt this)]
      exact kp b o z
    · rw [y1.length, ho]
      exact Nat.le_trans hl big_line
end
section
variable {I A : Type} {X : I → Cx} {K : PySem.W.Frag} {G : Env} {f : A → Dt} {le : A → A → Bool} {e : Expr} {p pos : Pos} {xs : List A}
theorem x_sortG (q : SoT f le) (hu : ∀ j, (X j).A.units + 64 < cLine) (hK : ∀ j, (X j).K = K) (h : ES X K G e false (xs.map f)) (hl : xs.length ≤ big) (hg : ∀ j, Gl (X j) "sorted") (hm : ∀ j, (X j).mg "sorted" = none)
    (he : ∀ j, starEach [e] (X j).env = [(false, eval e (X j).env)] := by intro _; rfl) : EN X K G (.Call (.Name "sorted" p) [e] [] pos) (.ol ((xs.mergeSort le).map f)) := fun F H σ fps Q k qq =>
  ⟨tCB (rSortG K f le) (tCons (wpE X e) tNil), fun j => hK j ▸ pe_callB (cr_sortG q (hu j)) (hg j) (hm j) (by decide +kernel) (pa_cons (pe_wp j) pa_nil (he j)) (by decide) (by decide) (he j) rfl, h F H σ fps _ k fun F1 H1 a vs u r l rl =>
    ⟨F1, a, vs, xs, rfl, u.sb, r, rl, hl, fun D ys hD ry => by
      have n0 : H D = none := u.hp.free hD
      refine qq F1 (upd H1 D (.lst ys)) (.ref D) [D] (u.trans (Up.layH u.sb hD)) (.ol upd_same ?_ ry) fun b hb => ?_
      · rw [ry.len, List.length_map, List.length_mergeSort]; exact hl
      · obtain rfl : b = D := by simpa using hb
        exact ⟨n0, u.sb.none hD, by rw [upd_same]; simp⟩⟩⟩
theorem x_sortKS {B : Type} {b : B → Dt} {kvs : List (Str × B)} (hc : ∀ j, (X j).calm = true) (hu : ∀ j, (X j).A.units + 64 < cLine) (hK : ∀ j, (X j).K = K) (h : ED X K G e (encK Sum.inr b kvs)) (hg : ∀ j, Gl (X j) "sorted") (hm : ∀ j, (X j).mg "sorted" = none)
    (he : ∀ j, starEach [e] (X j).env = [(false, eval e (X j).env)] := by intro _; rfl) : EN X K G (.Call (.Name "sorted" p) [e] [] pos) (.ol ((sortT (kvs.map Prod.fst)).map Dt.str)) := fun F H σ fps Q k qq =>
  ⟨tCB (rSortKG K Dt.str leS) (tCons (wpE X e) tNil), fun j => hK j ▸ pe_callB (cr_sortKG sot_str (fun x => .inr ⟨x, rfl⟩) (hc j) (hu j)) (hg j) (hm j) (by decide +kernel) (pa_cons (pe_wp j) pa_nil (he j)) (by decide) (by decide) (he j) rfl, h F H σ fps _ k fun F1 H1 a vs u r l rl nd => by
    have rk := repK_keysL rl
    have ln : kvs.length ≤ big := by
      have := repK_len rl
      rw [← this]; exact l
    refine ⟨F1, a, vs, kvs.map Prod.fst, rfl, u.sb, r, ?_, by rw [List.length_map]; exact ln, fun D ys hD ry => ?_⟩
    · have e : (kvs.map fun z => keyD (Sum.inr z.1 : Key)) = (kvs.map Prod.fst).map Dt.str := by rw [List.map_map]; rfl
      rw [← e]; exact rk
    · have n0 : H D = none := u.hp.free hD
      refine qq F1 (upd H1 D (.lst ys)) (.ref D) [D] (u.trans (Up.layH u.sb hD)) (.ol upd_same ?_ ry) fun b hb => ?_
      · rw [ry.len, List.length_map, List.length_mergeSort, List.length_map]; exact ln
      · obtain rfl : b = D := by simpa using hb
        exact ⟨n0, u.sb.none hD, by rw [upd_same]; simp⟩⟩
end
end Vs

/-! sorted(d, key=lambda k: (d[k], k)), d a dict from texts to whole numbers. -/
namespace Vs
open PySem PySem.Spec L2 PyProof.Rows PySem.W
abbrev lamArgs (ap : Pos) : Arguments := { posonlyargs := [], args := [{ arg := "statement", annotation := none, pos := ap : PySem.Arg }], vararg := none, kwonlyargs := [], kw_defaults := [], kwarg := none, defaults := [] : PySem.Arguments }
abbrev lamSc : Scope := { kind := PySem.ScopeKind.function, names := [(PySem.Str.ofString "statement", PySem.NameKind.local), (PySem.Str.ofString "ranks", PySem.NameKind.free)], isGenerator := false, isCoroutine := false, more := [] : PySem.Scope }
/-- the body: (ranks[statement], statement) -/
abbrev lamBody (p1 p2 p3 p4 p5 : Pos) (x1 : Nat) : Expr := .Tuple [.Subscript (.Name "ranks" p1) (.Name "statement" p2) p3, .Name "statement" p4] x1 p5
section
variable {prog : Program} {w : World} {A : Around} {E : Value → Shared → Prop} {s : Shared}
theorem lam_run {f c' cr a : Addr} {q : Str} {clos : List (Str × Addr)} {pm ctv : Value} {ap p1 p2 p3 p4 p5 : Pos} {x1 : Nat} {k : Str} {tk : Tok} {r : Int} {t : Tok} {vs : List (Key × Value)}
    (hroom : A.depth < recursionLimit) (hf : s.heap.get? f = some (kla_obj "<lambda>" q (lamArgs ap) (lamBody p1 p2 p3 p4 p5 x1) lamSc clos pm c' ctv)) (hcd : s.heap.CodeRec (.ref c') q) (hlim : s.heap.NoLimit)
    (hc : clos.lookup ("ranks" : Str) = some cr) (ic : s.heap.IsCell cr (some (.ref a))) (dd : s.heap.DictOf (mixKind prog w) a vs) (hw : valueAt vs (.inr k) = some (.int r t)) :
    wpAny (model prog w) A (call (.ref f) [.str k tk]) (KeyPure (.tuple [.int r, .str k]) s) (fun _ _ => False) s := by
  refine wpAny_call ?_
  refine kla_callFunE hroom hf rfl rfl rfl rfl hcd ?_
  have hb : bindArgs (kla_fn "<lambda>" q (lamArgs ap) (lamBody p1 p2 p3 p4 p5 x1) lamSc clos pm (.ref c') ctv) ⟨[.str k tk], []⟩ = pure [(("statement" : Str), Value.str k tk)] := by rfl
  rw [hb]
  refine wpAny_pure (wpAny_newFunctionEnv (fun x hx => ?_) (fun x hx => ?_) (fun h₁ hns hsb => ⟨hlim.fresh _ hsb, ?_⟩) rfl)
  · have hx : x ∈ lamSc.names := hx
    simp only [List.mem_cons, List.not_mem_nil, or_false] at hx
    rcases hx with rfl | rfl <;> decide
  · obtain rfl : x = (("statement" : Str), Value.str k tk) := by simpa using hx
    show lamSc.names.lookup ("statement" : Str) = some .local
    decide +kernel
  have kp : ∀ b o, s.heap.get? b = some o → h₁.get? b = some o := fun b o e => hsb.extBut b o (Nat.ne_of_lt (Heap.lt_size e)) (Heap.get?_push_of_some _ e)
  show codeAny (model prog w) A (.expr (lamBody p1 p2 p3 p4 p5 x1) (envX q lamSc s.heap.objs.size f (.ref c') clos)) _ _
  refine kla_codeExpr (wpAny_mono (Q := fun v s' => KeyPure (.tuple [.int r, .str k]) s v s') (E := fun _ _ => False) ?_ (fun v s' hv => hv) fun e s' x => x.elim)
  have dd' : h₁.DictOf (mixKind prog w) a vs := dd.keep kp
  refine wpAny_Tuple_spliced ?_
  show wpAny _ _ (spliced [(false, eval (.Subscript (.Name "ranks" p1) (.Name "statement" p2) p3) (envX q lamSc s.heap.objs.size f (.ref c') clos)), (false, eval (.Name "statement" p4) (envX q lamSc s.heap.objs.size f (.ref c') clos))]) _ _ _
  have rd : ∀ {s2 : Shared} {Q : Value → Shared → Prop} {p : Pos}, s2.heap = h₁ → Q (.str k tk) s2 → wpAny (model prog w) (A.deeper (envX q lamSc s.heap.objs.size f (.ref c') clos)) (eval (.Name "statement" p) (envX q lamSc s.heap.objs.size f (.ref c') clos)) Q (fun _ _ => False) s2 := fun e h => by
    refine wpAny_Name (wpAny_loadName_local (m := fun x => ([(("statement" : Str), Value.str k tk)]).reverse.lookup x) rfl (show lamSc.names.lookup ("statement" : Str) = some .local by decide +kernel) (by rw [e]; exact hns) (by rfl) h) (by decide)
  refine Calls.spliced_cons ?_
  refine subD_of PySem.F.slot_dict_getitem.lookup (by exact fun _ _ => rfl) (T := "dict") ?_
  refine wpAny_Name (wpAny_loadName_free (c := cr) (v := .ref a) rfl (show lamSc.names.lookup ("ranks" : Str) = some .free by decide +kernel) hc ?_ ?_ (by decide)) (by decide)
  · exact ic.keeps kp
  refine rd rfl ?_
  refine ⟨dd'.typeIs, wpAny_getItem_of (knd := mixKind prog w) (k := .inr k) (mixKind_str _ _ _ _) dd'.mapOf hw ?_⟩
  refine Calls.spliced_cons (rd rfl ?_)
  refine Calls.spliced_nil ⟨by show 2 ≤ sizeLine; rw [sizeLine_eq]; decide, ?_⟩
  refine ⟨h₁.push { cls := .type "tuple", data := .seq [.int r t, .str k tk].toArray }, _, rfl, fun b o e => Heap.get?_push_of_some _ (kp b o e), ?_⟩
  exact .tuple (Heap.get?_push_size _ rfl) rfl rfl (.cons (.int r t) (.cons (.str k tk) .nil))
end
section
variable {X : Cx} {pins : List (Addr × Obj)} {σ : L2.St} {H : Hp} {s : Shared}
/-- the lambda made: what is tracked but the table stays, the table tells of no other names -/
theorem lam_new {c P : Addr} {ap p1 p2 p3 p4 p5 lp : Pos} {x1 : Nat} {E Q : Value → Shared → Prop} (I : Inv X pins σ H s) (TB : LamX.TabB X.base X.mg c P) (hcode : X.env.code = .ref c) (hq : X.env.qual ++ "<lambda>" = lamQ)
    (hT : LamX.TabS H P lamQ) (hfree : ∃ c, X.env.cells.lookup ("ranks" : Str) = some c)
    (go : ∀ (f c' : Addr) (pm ctv : Value) (H1 : Hp) (s' : Shared), Inv X pins σ H1 s' → ExH H H1 → (∀ b o, b ≠ P → H b = some o → H1 b = some o) →
      s'.heap.get? f = some (kla_obj "<lambda>" lamQ (lamArgs ap) (lamBody p1 p2 p3 p4 p5 x1) lamSc (cloFrom X.env.cells lamSc.names []) pm c' ctv) → s'.heap.CodeRec (.ref c') lamQ → Q (.ref f) s') :
    wpAny (model X.prog X.w) X.A (eval (.Lambda (lamArgs ap) (lamBody p1 p2 p3 p4 p5 x1) lamSc lp) X.env) Q E s := by
  obtain ⟨ps, tabH, trip, known⟩ := hT
  have inTab : s.heap.get? P = some { cls := .none, data := .fields ps } := I.hok P _ tabH
  have bmP := TB.bm.keeps I.bk
  have mgK := I.mod.glob.keeps I.bk
  have cdK := TB.code.keeps I.bk
  have clo : closureFor lamSc X.env = pure (cloFrom X.env.cells lamSc.names []) := closure_ok fun y hy e => by
    have hy : y ∈ lamSc.names := hy
    simp only [List.mem_cons, List.not_mem_nil, or_false] at hy
    rcases hy with rfl | rfl
    · cases e
    · exact hfree
  refine kla_eval (rfl : defaultsOf (lamArgs ap) X.env = ([], [])) ?_
  rw [hq]
  rcases hcv : codeAmong lp ps.toList with _ | cv
  · refine kla_makeFunction (mg := X.mg) (c := c) clo I.ok.glob mgK hcode cdK inTab trip hcv TB.gP bmP fun c' ctv h' tk ext ge lt rec_ tab' => ?_
    obtain ⟨d, oc, vs, t, ed, o1, o2, o3⟩ := rec_
    cases ed
    have nC : H c' = none := I.hok.fresh ge
    have big' : s.heap.objs.size ≤ h'.objs.size := Nat.le_trans ge (Nat.le_of_lt lt)
    have up : ∀ {ob : Obj}, ∀ b o, h'.get? b = some o → (h'.push ob).get? b = some o := fun {ob} b o e => Heap.get?_push_of_some ob e
    have J := LamX.inv_table (q := lamQ) (t' := tk) (more := #[rawInt lp.line, rawInt lp.col, .ref c'])
      (h' := h'.push (kla_obj "<lambda>" lamQ (lamArgs ap) (lamBody p1 p2 p3 p4 p5 x1) lamSc (cloFrom X.env.cells lamSc.names []) ((X.mg "__name__").getD .none) c' ctv)) I tabH
      (fun b o ne e => up b o (ext b o ne e)) (up _ _ tab') ge ⟨oc, vs, t, up _ _ o1, o2, o3⟩
    have cne : ∀ b o, H b = some o → b ≠ c' := fun b o e z => by rw [z, nC] at e; cases e
    refine go h'.objs.size c' _ ctv _ _ J ⟨fun b o _ e n => ?_, fun b _ e => ?_, fun b tb => ?_⟩ (fun b o ne e => by rw [upd_ne (cne b o e), upd_ne ne]; exact e) (Heap.get?_push_size _ rfl) ⟨c', oc, vs, t, rfl, up _ _ o1, o2, o3⟩
    · rw [upd_ne (cne b o e), upd_ne (fun z => by rw [z, tabH] at e; cases e; cases n)]
      exact e
    · by_cases z : b = c'
      · rw [z, upd_same]; simp
      · rw [upd_ne z]
        by_cases z2 : b = P
        · rw [z2, upd_same]; simp
        · rw [upd_ne z2]; exact e
    · have codeK : ∀ d, H d = some (LamX.CodeO d lamQ) → upd (upd H P (.tbl (ps ++ #[rawInt lp.line, rawInt lp.col, .ref c']))) c' (LamX.CodeO c' lamQ) d = some (LamX.CodeO d lamQ) := fun d e => by
        rw [upd_ne (cne d _ e), upd_ne (fun z => by rw [z, tabH] at e; cases e)]
        exact e
      by_cases z : b = P
      · subst z
        have el : (ps ++ #[rawInt lp.line, rawInt lp.col, Value.ref c']).toList = ps.toList ++ [rawInt lp.line, rawInt lp.col, .ref c'] := by simp
        refine ⟨_, by rw [upd_ne (cne b _ tabH), upd_same], by rw [el]; exact PySem.TriplesOk_snoc _ _ _ _ trip, fun p' cv h2 => ?_⟩
        rw [el] at h2
        rcases LamX.among_app _ trip h2 with y | y
        · obtain ⟨d, e1, e2⟩ := known p' cv y
          exact ⟨d, e1, codeK d e2⟩
        · exact ⟨c', y, upd_same⟩
      · obtain ⟨qs, a1, a2, a3⟩ := tb
        refine ⟨qs, by rw [upd_ne (cne b _ a1), upd_ne z]; exact a1, a2, fun p' cv h2 => ?_⟩
        obtain ⟨d, e1, e2⟩ := a3 p' cv h2
        exact ⟨d, e1, codeK d e2⟩
  · obtain ⟨c', e, hco⟩ := known lp cv hcv
    subst e
    refine kla_makeFunctionHit (mg := X.mg) (c := c) clo I.ok.glob mgK hcode cdK inTab trip hcv bmP fun ctv h' tk ext _ => ?_
    have up : ∀ b o, s.heap.get? b = some o → (h'.push (kla_obj "<lambda>" lamQ (lamArgs ap) (lamBody p1 p2 p3 p4 p5 x1) lamSc (cloFrom X.env.cells lamSc.names []) ((X.mg "__name__").getD .none) c' ctv)).get? b = some o := fun b o e => Heap.get?_push_of_some _ (ext b o e)
    obtain ⟨⟨oc, vs, t, o1, o2, o3⟩, _, _⟩ := I.hok c' _ hco
    exact go h'.objs.size c' _ ctv H _ (I.kept up) (ExO.refl H) (fun _ _ _ e => e) (Heap.get?_push_size _ rfl) ⟨c', oc, vs, t, rfl, up _ _ o1, o2, o3⟩
end
/-- the keys by their numbers, then by their texts -/
def sortK (ds : List (Str × Int)) : List Str := (ds.mergeSort fun p q => leIS (p.2, p.1) (q.2, q.1)).map Prod.fst
theorem rv_fst {K : PySem.W.Frag} {F : Hp} : ∀ {vs : List Value} {xs : List (Str × Int)}, EachIs (RV K F fun b : Str × Int => Dt.str b.1) vs xs → EachIs (RV K F Dt.str) vs (xs.map Prod.fst)
  | _, _, .nil => .nil
  | _, _, .cons h t => .cons h (rv_fst t)
theorem keepsBut_push {h h' : Heap} {o : Obj} (k : KeepsBut h.objs.size (h.push o) h') : ∀ b u, h.get? b = some u → h'.get? b = some u := fun b u e => k b u (Nat.ne_of_lt (Heap.lt_size e)) (Heap.get?_push_of_some _ e)
theorem gets_at {κ A : Type} [DecidableEq κ] : ∀ {ds : List (κ × A)}, (ds.map Prod.fst).Nodup → ∀ {x : κ × A}, x ∈ ds → gets ds x.1 = some x.2
  | [], _, _, h => nomatch h
  | d :: ds, n, x, h => by
    rw [List.map_cons, List.nodup_cons] at n
    rcases List.mem_cons.mp h with rfl | h
    · simp [gets]
    · have e : ¬ d.1 = x.1 := fun z => n.1 (by rw [z]; exact List.mem_map.mpr ⟨x, h, rfl⟩)
      have := gets_at n.2 h
      simp [gets, e, this]
section
variable {X : Cx}
/-- sorted over a dict by the lambda, called -/
theorem call_sortLam {pins : List (Addr × Obj)} {σ : L2.St} {F H : Hp} {s : Shared} {f c' a cr : Addr} {pm ctv : Value} {kvs : List (Key × V)} {ds : List (Str × Int)} {ap p1 p2 p3 p4 p5 : Pos} {x1 : Nat} {Q : VK}
    (I : Inv X pins σ H s) (hcalm : X.calm = true) (hu : X.A.units + 64 < cLine) (hdep : X.A.depth < recursionLimit) (sb : Sub F H) (hd : Rd H a (.dK kvs)) (rk : RepK X.K F kvs (encK Sum.inr Dt.int ds)) (nd : (kvs.map (·.1)).Nodup) (hl : kvs.length ≤ big)
    (hf : s.heap.get? f = some (kla_obj "<lambda>" lamQ (lamArgs ap) (lamBody p1 p2 p3 p4 p5 x1) lamSc (cloFrom X.env.cells lamSc.names []) pm c' ctv)) (hcd : s.heap.CodeRec (.ref c') lamQ)
    (hcr : (cloFrom X.env.cells lamSc.names []).lookup ("ranks" : Str) = some cr) (ic : s.heap.IsCell cr (some (.ref a)))
    (qq : ∀ D ys, H D = none → RepL X.K F ys ((sortK ds).map Dt.str) → Q (.ref D) (upd H D (.lst ys))) :
    wpAny (model X.prog X.w) X.A (call (.builtin "sorted") [.ref a] [(Str.ofString "key", .ref f)]) (L2.EP X pins σ Q) X.xe s := by
  obtain ⟨z, lo, vs, rel, dd⟩ := dk_rd I.hok hd
  obtain ⟨ep, hat⟩ := dd.dictAt
  have ek : (kvs.map fun kv => kV kv.1) = vs.map fun p => kV p.1 := by
    have e := congrArg (List.map kV) rel.keys
    rw [List.map_map, List.map_map] at e
    exact e
  have hdl : ds.length ≤ big := by
    have := repK_len rk
    rw [← this]; exact hl
  refine call_function_entry_kw kind_sorted plain_sorted entry_sorted (ksk_s1 _ _) ?_
  unfold Builtin.«sorted»
  refine wpAny_bind (m := checkCount "sorted" 1 1 _) (wpAny_pure ?_)
  have hh := I.ok.hd hcalm
  refine wpAny_bind (collect_src (kdl_dict (knd := mixKind X.prog X.w) (kvs := vs) (ep := ep) lo) hh hat (by rw [← rel.length]; exact z) fun h' tk acc hk hacc => ?_)
  have hv : Vals (vs.map fun p => kV p.1) acc.toList := keys_at (by rw [Array.length_toList]; exact hacc.1) fun j v e => hacc.2 j v (by rw [← Array.getElem?_toList]; exact e)
  have rl : RepL X.K F (vs.map fun p => kV p.1) (ds.map fun b : Str × Int => Dt.str b.1) := by
    rw [← ek]
    exact repK_keysL rk
  have e := each_rv (f := fun b : Str × Int => Dt.str b.1) hv rl
  have hL : acc.toList.length ≤ sizeLine := by rw [e.length]; exact Nat.le_trans hdl big_line
  refine wpAny_bind (wpAny_newList ?_ hL)
  have I1 : Inv X pins σ H { s with heap := h', toks := tk } := I.kept hk
  have hob : (h'.push (seqObj "list" acc.toList.toArray 0)).get? h'.objs.size = some (seqObj "list" acc.toList.toArray 0) := Heap.get?_push_size _ rfl
  refine wpAny_bind (wpAny_holding ?_)
  refine list_sort_key_data (b := false) (s := { s with heap := h'.push (seqObj "list" acc.toList.toArray 0), toks := tk }) (fun b : Str × Int => PyData.tuple [.int b.2, .str b.1]) hob e (AllAlike.of fun _ _ => by simp [alike, alikeAll]) (Sortable.tuples fun _ => ⟨_, _, rfl⟩) (Nat.le_trans hdl big_line) (fun x _ => ?_) (ksk_l1 _ _) (ksk_t1 _ _) (fun v x hR hx h tk2 kp => ?_) fun out n h2 tk2 kp hD ho eo => ?_
  · have hd : (PyData.tuple [.int x.2, .str x.1]).depth = 1 := by simp [PyData.depth, PyData.depthAll]
    rw [hd]
    show X.A.units + 1 + 1 + 1 < cLine
    omega
  · obtain ⟨u0, h1, h2⟩ := hR
    cases h2
    obtain ⟨t, rfl⟩ := h1
    have kp' : ∀ b o, s.heap.get? b = some o → h.get? b = some o := fun b o e => keepsBut_push kp b o (hk b o e)
    have hg : ∃ t, valueAt vs (.inr x.1) = some (.int x.2 t) := by
      have hgs := gets_at (nodup_un rk nd) hx
      rcases repK_get (g := Sum.inr) (fun _ _ h => Sum.inr.inj h) x.1 rk with ⟨y, _⟩ | ⟨a1, v1, y1, y2, y3⟩
      · rw [hgs] at y; cases y
      · rw [hgs] at y1; cases y1
        cases y3
        have r1 := rel.val (.inr x.1)
        rw [y2] at r1
        obtain ⟨u1, e1, e2⟩ := r1.some_of
        obtain ⟨t3, rfl⟩ := e2
        exact ⟨t3, e1⟩
    obtain ⟨t2, hw⟩ := hg
    exact lam_run (A := X.A.in1.in1) (s := { s with heap := h, toks := tk2 }) hdep (kp' _ _ hf) (by obtain ⟨d, oc, us, t3, e1, e2, e3, e4⟩ := hcd; exact ⟨d, oc, us, t3, e1, kp' _ _ e2, e3, e4⟩) (I.nolimit.keeps kp') hcr (ic.keeps kp') (dd.keep kp') hw
  · rw [dataLe_is (β := Str × Int) (·.2) (·.1)] at eo
    obtain ⟨ys, y1, y2⟩ := rv_each (rv_fst eo)
    have nD := I1.hok.fresh (Nat.le_refl h'.objs.size)
    refine wpAny_pure ⟨_, rfl, ?_⟩
    refine ⟨.ref h'.objs.size, upd H h'.objs.size (.lst ys), I1.laid (t' := tk2) (keepsBut_push kp) (Nat.le_refl _) ⟨?_, out, n, y1, hD⟩, rfl, qq _ ys nD y2⟩
    rw [y1.length, ho]
    exact Nat.le_trans hdl big_line
end
section
variable {X : Cx}
/-- what the expression asks and gives -/
def tSortLam (K : PySem.W.Frag) (P : Addr) (i : Nat) : TE := fun σ H Q => ∃ (F : Hp) (a : Addr) (kvs : List (Key × V)) (ds : List (Str × Int)), σ[i]? = some (some (V.ref a)) ∧ Sub F H ∧ Rd H a (.dK kvs) ∧ RepK K F kvs (encK Sum.inr Dt.int ds) ∧ (kvs.map (·.1)).Nodup ∧ kvs.length ≤ big ∧ F P = none ∧ LamX.TabS H P lamQ ∧
  ∀ H1 D ys, ExH H H1 → Sub F H1 → H1 D = none → RepL K F ys ((sortK ds).map Dt.str) → Q (.ref D) (upd H1 D (.lst ys))
theorem pe_sortLam {c P : Addr} {i : Nat} {k : Nat} {p p0 kp pos ap p1 p2 p3 p4 p5 lp : Pos} {x1 : Nat} (TB : LamX.TabB X.base X.mg c P) (hcode : X.env.code = .ref c) (hq : X.env.qual ++ "<lambda>" = lamQ) (hcalm : X.calm = true) (hr : Room k X.A)
    (hg : Gl X "sorted") (hm : X.mg "sorted" = none) (hN : X.N[i]? = some "ranks") (hv : X.env.scope.names.lookup ("ranks" : Str) = some .cell) :
    PE X (.Call (.Name "sorted" p) [.Name "ranks" p0] [⟨some "key", .Lambda (lamArgs ap) (lamBody p1 p2 p3 p4 p5 x1) lamSc lp, kp⟩] pos) (tSortLam X.K P i) := by
  refine ⟨fun pins s σ H Q I h => ?_⟩
  obtain ⟨F, a, kvs, ds, hs, sb, hd, rk, nd, hl, hF, hT, qq⟩ := h
  refine wpAny_Call_Name_kw (ld_blt I hg hm (by decide +kernel : bootBuiltins "sorted" = some (.builtin "sorted")) ?_ (by decide) (by decide))
  refine PyProof.Rows.callWith_kw ?_ rfl rfl rfl rfl
  show wpAny _ _ (spliced [(false, eval (.Name "ranks" p0) X.env)]) _ _ s
  refine Calls.spliced_cons (thn ((pe_var (pos := p0) hN (.inr (.inl hv))).run pins s σ H (fun v H' => v = .ref a ∧ H' = H) I ⟨.ref a, hs, rfl, rfl⟩) fun u s1 hz => Calls.spliced_nil ?_)
  obtain ⟨v, H', I1, r1, rfl, rfl⟩ := hz
  obtain rfl : u = Value.ref a := r1
  have cell : ∀ {s' : Shared} {H' : Hp}, Inv X pins σ H' s' → ∃ cr, X.env.cells.lookup ("ranks" : Str) = some cr ∧ s'.heap.IsCell cr (some (.ref a)) := fun {s' H'} J => by
    obtain ⟨m, _, lk⟩ := J.loc
    obtain ⟨u, ru, l⟩ := lk i "ranks" (.ref a) hN hs (.inr (.inl hv))
    obtain rfl : u = Value.ref a := ru
    rcases l with ⟨y, _⟩ | ⟨_, cr, e1, e2⟩
    · have y : X.env.scope.names.lookup ("ranks" : Str) = some .local := y
      rw [hv] at y; cases y
    · exact ⟨cr, e1, e2⟩
  show wpAny _ _ (evalAll [do let v ← eval (.Lambda (lamArgs ap) (lamBody p1 p2 p3 p4 p5 x1) lamSc lp) X.env; standAt pos; pure v]) _ _ s1
  obtain ⟨c0, e0, _⟩ := cell I1
  refine wpAny_evalAll_cons (wpAny_bind (lam_new I1 TB hcode hq hT ⟨c0, e0⟩ fun f c' pm ctv H2 s2 I2 ex oth hf hcd => wpAny_bind (wpAny_standAt (wpAny_pure (wpAny_evalAll_nil ?_)))))
  obtain ⟨cr, e1, e2⟩ := cell I2
  have hclo : (cloFrom X.env.cells lamSc.names []).lookup ("ranks" : Str) = some cr := by
    have n1 : ((NameKind.local) == NameKind.free) = false := by decide
    have n2 : ((NameKind.free) == NameKind.free) = true := by decide
    show (cloFrom X.env.cells [(("statement" : Str), NameKind.local), (("ranks" : Str), NameKind.free)] []).lookup ("ranks" : Str) = some cr
    simp only [cloFrom, n1, n2, if_true, Bool.false_eq_true, if_false, List.lookup_cons, beq_self_eq_true]
    rw [e1]; rfl
  have sb2 : Sub F H2 := fun b o z => by
    have ne : b ≠ P := fun e => by rw [e, hF] at z; cases z
    rcases sb b o z with y | ⟨y, ob, y2⟩
    · exact .inl (oth b o ne y)
    · exact .inr ⟨y, ob, ex.h y2⟩
  exact call_sortLam I2 hcalm hr.units hr.depth sb2 (ex.rd hd) rk nd hl hf hcd hclo e2 fun D ys hD ry => qq H2 D ys ex sb2 hD ry
/-- sorted(ranks, key=lambda statement: (ranks[statement], statement)) -/
theorem x_sortLam {K : PySem.W.Frag} {G : Env} {i k : Nat} {ds : List (Str × Int)} {p p0 kp pos ap p1 p2 p3 p4 p5 lp : Pos} {x1 : Nat} (hK : X.K = K) (hlam : lamB K = true) (TB : LamX.TabB X.base X.mg (He.cT K lamD).1 (He.cT K lamD).2) (hcode : X.env.code = .ref (He.cT K lamD).1) (hg : G[i]? = some (some (.fz (.dic (encK Sum.inr Dt.int ds)))))
    (hr : Room k X.A) (hgl : Gl X "sorted") (hm : X.mg "sorted" = none) (hq : X.env.qual ++ "<lambda>" = lamQ := by decide +kernel) (hcalm : X.calm = true := by rfl) (hN : X.N[i]? = some "ranks" := by rfl) (hv : X.env.scope.names.lookup ("ranks" : Str) = some .cell := by decide +kernel) :
    EN (one X) K G (.Call (.Name "sorted" p) [.Name "ranks" p0] [⟨some "key", .Lambda (lamArgs ap) (lamBody p1 p2 p3 p4 p5 x1) lamSc lp, kp⟩] pos) (.ol ((sortK ds).map Dt.str)) := fun F H σ fps Q Eo q => by
  obtain ⟨v, h1, h2⟩ := Eo.ent i _ hg
  obtain ⟨_, r⟩ := h2.there
  cases r with
  | @dic a vs _ ha l rk nd =>
    obtain ⟨t1, t2⟩ := Eo.tab _ ⟨hlam, rfl⟩
    refine ⟨tSortLam X.K (He.cT K lamD).2 i, fun _ => pe_sortLam TB hcode hq hcalm hr hgl hm hN hv, F, a, vs, ds, h1, Eo.sub, Eo.sub.rd ha, hK ▸ rk, nd, l, t1, t2, fun H1 D ys ex sb hD ry => ?_⟩
    have u : Up F H F H1 := ⟨Ex.refl F, ex, fun _ z _ => z, sb⟩
    have n0 : H D = none := ex.free hD
    refine q F (upd H1 D (.lst ys)) (.ref D) [D] (u.trans (Up.layH sb hD)) (.ol upd_same ?_ (hK ▸ ry)) fun b hb => ?_
    · rw [ry.len, List.length_map]
      unfold sortK
      rw [List.length_map, List.length_mergeSort, ← repK_len rk]
      exact l
    · obtain rfl : b = D := by simpa using hb
      exact ⟨n0, sb.none hD, by rw [upd_same]; simp⟩
end
end Vs

/-! A def that makes the lambda; a head that knows its table. -/
namespace Vs
open PySem PySem.Spec L2
section
variable {P : Program} {w : World} {K : PySem.W.Frag} {mg : Str → Option Value} {base : Heap}
/-- like fnOk_mk, with the def's code object known -/
theorem fnOk_mkC {p : Str × Option Str} {x qual : Str} {params : Arguments} {body : List Stmt} {scope : Scope} {fd : FuncData} {N ps : List Str} {k : Nat} {r : List Dt → Sum Cell Xc → Prop} {dvs : List V} {kws : List (Str × V)} (F : FunD K x qual params body scope dvs kws (He.fAd K p) fd) (S : FnScope N ps scope)
    (h : ∀ (cdv : Value) (A : Around) (outer : List PySem.Env) (s : Shared) (H : Hp) (E : XK) (ds : List Dt) (a : Sum Cell Xc), cdv = .ref (He.cT K p).1 → Room k (A.deeper (PyProof.Rows.envOfC qual scope s.heap.objs.size (He.fAd K p) cdv)) → r ds a → ds.length = ps.length →
      ∃ o, OutIs o a ∧ Run (cxOf (L2.CX P w) P w K mg base N qual scope (He.fAd K p) cdv A outer s H E) K (wE E) sv0 body (start0 N ds) o) : FnOk P w K mg base (L2.CX P w) (k + 1) (He.fAd K p) fd ps (spR K ps.length r) := by
  obtain ⟨oc, od, dV, kV, doc, pm, an, cdv, ct, osl, rfl, lk, hcd, _, _⟩ := F.ex
  obtain ⟨c, rfl⟩ := He.codeIn_ref hcd
  have hc : (He.cT K p).1 = c := He.codeOf_eq lk rfl
  refine fn_of lk hcd S (fun vs H Q E ⟨F', ds, a, _, rl, hn, _⟩ => by rw [rl.len, hn]) fun A outer s H vs Q E hr ⟨F', ds, a, hs, rl, hn, hR, hq⟩ => ?_
  obtain ⟨o, ho, run⟩ := h (.ref c) A outer s H E ds a (by rw [hc]) hr hR hn
  refine run F' H (L2.start N vs) (fun _ => []) { nx := fun _ H' => Q .non H', rt := Q } (start_ok hs rl) (fun v e => nomatch e) ?_
  have noO : ∀ b, Owns (fun _ => []) b → False := fun b ⟨i, z⟩ => by simp at z
  cases ho with
  | rt c =>
    intro F2 H2 v fp s2 l rc n
    refine hq F2 H2 v fp ⟨l.fr, l.hp.imp fun b z => noO b z, fun b z z' => l.nw b (noO b) z z', s2⟩ rc fun b hb => ⟨?_, n b hb⟩
    exact (l.ow b hb).elim (fun z => (noO b z).elim) id
  | nx G =>
    intro F2 H2 σ' fps' e' _ l
    exact hq F2 H2 .non [] ⟨l.fr, l.hp.imp fun b z => noO b z, fun b z z' => l.nw b (noO b) z z', e'.sub⟩ (.fz .non) fun b hb => by simp at hb
  | xc x G =>
    intro F2 H2 σ' fps' d e' _ l xr
    exact hq F2 H2 d ⟨l.fr, l.hp.imp fun b z => noO b z, fun b z z' => l.nw b (noO b) z z', e'.sub⟩ xr
end
/-! ### the hook -/
def frZ (n : Nat) (g : Addr → Option Obj) : PySem.W.Frag := He.frT g (He.asD g n ++ [cStatics])
def obsZ (n : Nat) (fa : List He.Fa) (fn : List He.DefD) (ya : List Ya) (g : Addr → Option Obj) : He.AlD := ((He.obsD fa fn (frZ n g)).1 && ((ya.all fun y => y.ok (frZ n g)) && He.tabsB g [lamD] (frZ n g)), (He.obsD fa fn (frZ n g)).2)
structure SaysZ (fa : List He.Fa) (fn : List He.DefD) (ya : List Ya) (h : Heap) (K : PySem.W.Frag) : Prop where
  y : SaysY fa fn ya K
  hd : PySem.W.codeHdIn K (He.cT K lamD).1 (He.cT K lamD).2 = true
  out : K.lookup (He.cT K lamD).2 = none
  empty : h.get? (He.cT K lamD).2 = some { cls := .none, data := .fields #[] }
theorem saysZ_of {n : Nat} {fa : List He.Fa} {fn : List He.DefD} {ya : List Ya} {h : Heap} (e : obsZ n fa fn ya h.get? = He.valD fn) : SaysZ fa fn ya h (frZ n h.get?) := by
  have e1 : ((He.obsD fa fn (frZ n h.get?)).1 && ((ya.all fun y => y.ok (frZ n h.get?)) && He.tabsB h.get? [lamD] (frZ n h.get?))) = true := (Prod.ext_iff.mp e).1
  have e2 : (He.obsD fa fn (frZ n h.get?)).2 = (He.valD fn).2 := (Prod.ext_iff.mp e).2
  obtain ⟨a, b⟩ := Bool.and_eq_true_iff.mp e1
  obtain ⟨b, c⟩ := Bool.and_eq_true_iff.mp b
  obtain ⟨c1, c2⟩ := Bool.and_eq_true_iff.mp (List.all_eq_true.mp c lamD (by simp))
  have c3 : ∃ o, h.get? (He.cT (frZ n h.get?) lamD).2 = some o ∧ He.emptyTab o = true := by
    cases q : h.get? (He.cT (frZ n h.get?) lamD).2 with
    | none => rw [q] at c2; cases c2
    | some o => rw [q] at c2; exact ⟨o, rfl, c2⟩
  obtain ⟨o, q, z⟩ := c3
  exact ⟨⟨Prod.ext a e2, b⟩, c1, He.frT_none q z, by rw [q, He.emptyTab_eq z]⟩
def hookZ (n : Nat) (fa : List He.Fa) (fn : List He.DefD) (ya : List Ya) : PySem.W.Hook where
  α := He.AlD
  obs := fun s => obsZ n fa fn ya s.heap.get?
  val := fun _ => He.valD fn
  says := fun _ h => ∃ K : PySem.W.Frag, K.In h ∧ SaysZ fa fn ya h K
  of := fun _ _ e => ⟨_, He.frT_in, saysZ_of e⟩
  keeps := fun _ _ _ ⟨K, hK, c⟩ k => ⟨K, PySem.W.Frag.In.keeps hK k, c.y, c.hd, c.out, k _ _ c.empty⟩
theorem obsZ_eq {n : Nat} {fa : List He.Fa} {fn : List He.DefD} {ya : List Ya} {g : Addr → Option Obj} {s : Shared} (h : ∀ a, g a = s.heap.get? a) : obsZ n fa fn ya g = (hookZ n fa fn ya).obs s := by
  have e : g = s.heap.get? := funext h
  rw [e] <;> rfl
/-- the end of a law whose program makes the lambda -/
theorem walkZ {l : PySem.W.OpenLaw} {q : Program} {loose : List Str} {XP : (Str → Option Value) → Heap → Prop} {d : DefRec} {k n : Nat} {fa : List He.Fa} {fn : List He.DefD} {ya : List Ya} {x : Str} {r : List Dt → Sum Cell Xc → Prop}
    (hn : l.most = some 63) (hdf : d.params.defaults = []) (hr : Room k callerA)
    (F : ∀ (w : World) (mg : Str → Option Value) (f : Addr) (h : Heap) (K : PySem.W.Frag), K.In h → h.Ns mainGlobals mg → SaysY fa fn ya K → mg d.name = some (.ref f) →
      ∃ fd : FuncData, (∀ (s : Shared) (u : Value), BindsTo s fd ⟨[u], []⟩ [(x, u)]) ∧ ∀ base : Heap, K.In base → base.Ns mainGlobals mg → LamX.TabB base mg (He.cT K lamD).1 (He.cT K lamD).2 → FnOk l.prog w K mg base (L2.CX l.prog w) k f fd [x] (spR K 1 r))
    (hR : ∀ ns : List Int, ns.length ≤ 63 → r [.scr (ns.map Dt.int)] (.inl (.fz (.bl true)))) :
    PySem.W.WalkO q loose XP (hookZ n fa fn ya).says l.row.toRowW d [] (fun f vs => PySem.call f vs) :=
  walkT hn hdf hr (fun w mg f h ⟨K, KX, c⟩ G e => by
    obtain ⟨fd, hb, hF⟩ := F w mg f h K KX G c.y e
    refine ⟨K, fd, [He.cT K lamD], KX, fun p hp => ?_, fun p hp => ?_, fun p hp => ?_, fun P hP => ⟨_, by simp, hP.2.symm⟩, hb, fun base a b t => hF base a b (t _ (by simp))⟩
    · obtain rfl : p = He.cT K lamD := by simpa using hp
      exact c.empty
    · obtain rfl : p = He.cT K lamD := by simpa using hp
      exact c.out
    · obtain rfl : p = He.cT K lamD := by simpa using hp
      exact PySem.W.codeHd_of_K KX c.hd) hR
end Vs

/-! for over a dict: it is locked meanwhile; d.items(). -/
namespace Vs
open PySem PySem.Spec L2
/-- it is returned -/
def TermR : Out → Prop
  | .rt _ _ => True
  | _ => False
theorem TermR.term : ∀ {o : Out}, TermR o → Term o
  | .rt _ _, _ => trivial
/-- the ends of a statement during which the dict at d is locked -/
def lkEnds (d : Addr) (od : Obj) (vs : List (Key × V)) (D : Ends) : Ends := ⟨fun σ' H' => H' d = some (.frz od (.dK vs)) ∧ D.nx σ' (upd H' d (.dK vs)), fun v H' => H' d = some (.frz od (.dK vs)) ∧ D.rt v (upd H' d (.dK vs)), fun σ' H' => H' d = some (.frz od (.dK vs)) ∧ D.bk σ' (upd H' d (.dK vs)), fun σ' H' => H' d = some (.frz od (.dK vs)) ∧ D.ct σ' (upd H' d (.dK vs))⟩
section
variable {K : PySem.W.Frag} {W : WX} {sv : Sv} {G : Env}
theorem sub_unlock {F H : Hp} {d : Addr} {od : Obj} {vs : List (Key × V)} (s : Sub F H) (hF : F d = some (.dK vs)) : Sub F (upd H d (.dK vs)) := fun a o z => by
  by_cases e : a = d
  · subst e; rw [hF] at z; cases z; exact .inl upd_same
  · rcases s a o z with y | ⟨y, ob, y2⟩
    · exact .inl (by rw [upd_ne e]; exact y)
    · exact .inr ⟨y, ob, by rw [upd_ne e]; exact y2⟩
theorem EnvOk.unlock {F H : Hp} {σ : L2.St} {fps : Nat → List Addr} {d : Addr} {od : Obj} {vs : List (Key × V)} (E : EnvOk K F H σ G fps) (hF : F d = some (.dK vs)) (hH : H d = some (.frz od (.dK vs))) : EnvOk K F (upd H d (.dK vs)) σ G fps := by
  have ne : ∀ b, Owns fps b → b ≠ d := fun b hb e => by
    have := (E.ownF hb).1
    rw [e, hF] at this; cases this
  exact E.keep (O := fun a => a = d) (Ex.refl _) (sub_unlock (od := od) E.sub hF) ((ExO.refl H).upd hH rfl rfl) (fun a ha (e : a = d) => ne a ha e) (fun a ha => (E.ownF ha).1) fun P h => (E.tab P h).1
theorem Le.unlock {O O' : Addr → Prop} {F H F' H' : Hp} {d : Addr} {od : Obj} {vs : List (Key × V)} (l : Le O F (upd H d (.frz od (.dK vs))) F' H' O') (hF : F d = some (.dK vs)) (hH : H d = some (.dK vs)) (hH' : H' d = some (.frz od (.dK vs))) (hO : ¬ O d) : Le O F H F' (upd H' d (.dK vs)) O' := by
  refine ⟨l.fr, ⟨fun a o n z m => ?_, fun a n z => ?_, fun a t => ?_⟩, fun a n z z' => ?_, fun a z => ?_⟩
  · by_cases e : a = d
    · subst e; rw [hH] at z; cases z; exact upd_same
    · rw [upd_ne e]; exact l.hp.k a o n (by rw [upd_ne e]; exact z) m
  · by_cases e : a = d
    · subst e; rw [upd_same]; simp
    · rw [upd_ne e]; exact l.hp.n a n (by rw [upd_ne e]; exact z)
  · exact tab_upd (l.hp.t a (tab_upd t hH rfl)) hH' rfl
  · have e : a ≠ d := fun e => by rw [e, hF] at z; cases z
    exact l.nw a n z (by rw [upd_ne e]; exact z')
  · rcases l.ow a z with y | y
    · exact .inl y
    · refine .inr ?_
      by_cases e : a = d
      · subst e; rw [upd_same] at y; cases y
      · rw [upd_ne e] at y; exact y
theorem kp_dict {F H F' H' : Hp} {fps fps' : Nat → List Addr} {σ : L2.St} {d : Addr} {od : Obj} {vs : List (Key × V)} (E : EnvOk K F H σ G fps) (l : Le (Owns fps) F (upd H d (.frz od (.dK vs))) F' H' (Owns fps')) (hF : F d = some (.dK vs)) : H' d = some (.frz od (.dK vs)) :=
  l.hp.k d _ (fun y => by have := (E.ownF y).1; rw [hF] at this; cases this) upd_same rfl
/-- an end in the unlocked world, in the locked one -/
theorem Fin.lock {D : Ends} {F H : Hp} {fps : Nat → List Addr} {σ : L2.St} {d : Addr} {od : Obj} {vs : List (Key × V)} (E : EnvOk K F H σ G fps) (hF : F d = some (.dK vs)) (hH : H d = some (.dK vs)) : ∀ {o : Out}, TermR o → Fin K W sv D F H fps o → Fin K W sv (lkEnds d od vs D) F (upd H d (.frz od (.dK vs))) fps o
  | .rt c none, _, h => fun F' H' v fp s l r n => by
    have hO : ¬ Owns fps d := fun y => by have := (E.ownF y).1; rw [hF] at this; cases this
    have hd : H' d = some (.frz od (.dK vs)) := l.hp.k d _ hO upd_same rfl
    have hF' := l.fr d _ hF
    have ne : ∀ a ∈ fp, a ≠ d := fun a ha e => by
      have := (n a ha).1
      rw [e, hF'] at this; cases this
    refine ⟨hd, h F' _ v fp (sub_unlock (od := od) s hF') (l.unlock hF hH hd hO) (r.mono (Ex.refl _) fun a ha o z _ => by rw [upd_ne (ne a ha)]; exact z) fun a ha => ⟨(n a ha).1, by rw [upd_ne (ne a ha)]; exact (n a ha).2⟩⟩
  | .rt c (some G'), _, h => fun F' H' σ' fps' v fp e s l r n => by
    have hO : ¬ Owns fps d := fun y => by have := (E.ownF y).1; rw [hF] at this; cases this
    have hd : H' d = some (.frz od (.dK vs)) := l.hp.k d _ hO upd_same rfl
    have hF' := l.fr d _ hF
    have ne : ∀ a ∈ fp, a ≠ d := fun a ha e => by
      have := (n a ha).1
      rw [e, hF'] at this; cases this
    refine ⟨hd, h F' _ σ' fps' v fp (e.unlock hF' hd) s (l.unlock hF hH hd hO) (r.mono (Ex.refl _) fun a ha o z _ => by rw [upd_ne (ne a ha)]; exact z) fun a ha => ⟨(n a ha).1, by rw [upd_ne (ne a ha)]; exact (n a ha).2.1, (n a ha).2.2⟩⟩
end
section
variable {X : Cx} {K : PySem.W.Frag} {W : WX} {sv : Sv} {G : Env} {rest : List Stmt} {o : Out} {pos : Pos} {A S T R : Type}
/-- one turn; N: what is asked behind the loop -/
theorem loop_turnN {D : Ends} {N : L2.St → Hp → Prop} {F0 H0 : Hp} {fps0 : Nat → List Addr} {Gs : S → Env} {Gb : S → A → Env} {E : T → Out} {P : S → A → Prop} {Q : S → Prop} {step : S → A → Step S R} {io : R → T} {k : S → T} {xs : List A} {s0 : S} {body : List Stmt} {i : Nat} {x : A} {σ : L2.St} {H : Hp}
    (hE : ∀ y, Term (E (io y))) (hb : ∀ s x, x ∈ xs → P s x → Run X K W sv body (Gb s x) ((step s x).out Gs fun y => E (io y))) (hk : ∀ s F H σ fps, Q s → k s = loop step io k xs s0 → EnvOk K F H σ (Gs s) fps → Slf sv σ → Le (Owns fps0) F0 H0 F H (Owns fps) → N σ H)
    (q : Fin K W sv D F0 H0 fps0 (E (loop step io k xs s0)) ∨ ∀ y, loop step io k xs s0 ≠ io y) (hx : xs[i]? = some x) (w : LoopW K W sv D F0 H0 fps0 Gs E P Q step io k xs (loop step io k xs s0) i σ H)
    (R : L2.St → Hp → Prop) (go : ∀ F fps s, EnvOk K F H σ (Gs s) fps → Slf sv σ → Le (Owns fps0) F0 H0 F H (Owns fps) → (∀ F' H' σ' fps', EnvOk K F' H' σ' (Gb s x) fps' → Slf sv σ' → Le (Owns fps) F H F' H' (Owns fps') →
      wpSs X body { D with nx := LoopW K W sv D F0 H0 fps0 Gs E P Q step io k xs (loop step io k xs s0) (i + 1), ct := LoopW K W sv D F0 H0 fps0 Gs E P Q step io k xs (loop step io k xs s0) (i + 1), bk := N } σ' H') → R σ H) : R σ H := by
  obtain ⟨F, fps, s, e, sl, l, hy, hp⟩ := w.ex
  have hlt : i < xs.length := (List.getElem?_eq_some_iff.mp hx).1
  have hd : xs.drop i = x :: xs.drop (i + 1) := by
    rw [List.drop_eq_getElem_cons hlt]
    have : xs[i] = x := (List.getElem?_eq_some_iff.mp hx).2
    rw [this]
  rw [hd] at hy hp
  have hm : x ∈ xs := List.mem_of_getElem? hx
  refine go F fps s e sl l fun F' H' σ' fps' e' sl' l' => ?_
  refine hb s x hm hp.1 F' H' σ' fps' _ e' sl' ?_
  have hp2 := hp.2
  have hy2 : (match step s x with
    | .nx s' => loop step io k (xs.drop (i + 1)) s'
    | .ct s' => loop step io k (xs.drop (i + 1)) s'
    | .bk s' => k s'
    | .fin y => io y) = loop step io k xs s0 := hy
  generalize step s x = st at hy2 hp2
  cases st with
  | nx s' => exact fun F2 H2 σ2 fps2 e2 sl2 l2 => ⟨F2, fps2, s', e2, sl2, l.trans (l'.trans l2), hy2, hp2⟩
  | ct s' => exact fun F2 H2 σ2 fps2 e2 sl2 l2 => ⟨F2, fps2, s', e2, sl2, l.trans (l'.trans l2), hy2, hp2⟩
  | bk s' => exact fun F2 H2 σ2 fps2 e2 sl2 l2 => hk s' F2 H2 σ2 fps2 hp2 hy2 e2 sl2 (l.trans (l'.trans l2))
  | fin y =>
    show Fin K W sv _ F' H' fps' (E (io y))
    have hT := hE y
    rcases q with q | q
    · rw [show io y = loop step io k xs s0 from hy2] at hT ⊢
      exact Fin.term (D := D) (D' := { D with nx := LoopW K W sv D F0 H0 fps0 Gs E P Q step io k xs (loop step io k xs s0) (i + 1), ct := LoopW K W sv D F0 H0 fps0 Gs E P Q step io k xs (loop step io k xs s0) (i + 1), bk := N }) rfl hT (q.le (l.trans l'))
    · exact absurd hy2.symm (q y)
/-- a for under lock, as a statement -/
theorem st_forL (L : Hp → Hp → L2.St → Prop) {tg iter : Expr} {g : TG} {js : List Nat} {body : List Stmt} {P : S → A → Prop} {Q : S → Prop} {s0 : S} {xs : List A} (enc : A → Dt) (Gs : S → Env) (Gb : S → A → Env) (E : T → Out) (step : S → A → Step S R) (io : R → T) (k : S → T)
    (hp : PassesOwn (model X.prog X.w) X.A X.env X.xe) (hc : X.calm = true) (hg : PG X tg g) (hv : noneIn sv.ks js = true) (hE : ∀ y, Term (E (io y)))
    (hi : ISrcL L (one X) K G tg iter (xs.map enc)) (h0 : Weak G (Gs s0)) (hB : ∀ s x, Bd K g js (enc x) (Gs s) (Gb s x)) (hP : LoopAll P Q step xs s0)
    (hb : ∀ s x, x ∈ xs → P s x → Run X K W sv body (Gb s x) ((step s x).out Gs fun y => E (io y))) {F H : Hp} {σ : L2.St} {fps : Nat → List Addr} {D : Ends} (Eo : EnvOk K F H σ G fps) (hL : L F H σ) (s : Slf sv σ)
    (hk : ∀ s F' H' σ' fps', Q s → k s = loop step io k xs s0 → EnvOk K F' H' σ' (Gs s) fps' → Slf sv σ' → Le (Owns fps) F H F' H' (Owns fps') → D.nx σ' H')
    (q : Fin K W sv D F H fps (E (loop step io k xs s0)) ∨ ∀ y, loop step io k xs s0 ≠ io y) : ∃ t, PS X (.For tg iter body [] pos) t ∧ t D σ H := by
  obtain ⟨wi, h1, h2, h3⟩ := hi
  refine ⟨tFor wi g (wpSs X body), ps_for hp hc (h1 ()) hg pss_wp (h2 ()), h3 F H σ fps _ Eo hL fun J F1 H1 u y => ?_⟩
  have q1 : Fin K W sv D F1 H1 fps (E (loop step io k xs s0)) ∨ ∀ y, loop step io k xs s0 ≠ io y := q.imp (fun q => q.le u.le) id
  have hk1 : ∀ s F' H' σ' fps', Q s → k s = loop step io k xs s0 → EnvOk K F' H' σ' (Gs s) fps' → Slf sv σ' → Le (Owns fps) F1 H1 F' H' (Owns fps') → D.nx σ' H' := fun s F' H' σ' fps' a b c d l => hk s F' H' σ' fps' a b c d (u.le.trans l)
  refine ⟨fun i m σ' H' => (m = xs.length - i ∧ i ≤ xs.length) ∧ LoopW K W sv D F1 H1 fps Gs E P Q step io k xs (loop step io k xs s0) i σ' H', ⟨xs.length, ⟨by omega, Nat.zero_le _⟩, F1, fps, s0, h0.ok (Eo.up u), s, Le.refl, rfl, hP⟩, ?_⟩
  rintro i m σ' H' ⟨⟨rfl, hi⟩, w⟩
  by_cases hlt : i < xs.length
  · refine .inr ⟨?_, fun σ2 H2 => LoopW K W sv D F1 H1 fps Gs E P Q step io k xs (loop step io k xs s0) (i + 1) σ2 H2, fun σ2 H2 w2 => ⟨xs.length - (i + 1), by omega, ⟨rfl, hlt⟩, w2⟩, fun v H2 hy => ?_⟩
    · obtain ⟨F', fps', s', e', _, l', _⟩ := w.ex
      exact y.go i F' H' l'.fr e'.sub (kp_le (Eo.up u) l') (by rw [List.length_map]; exact hlt)
    · refine loop_turnN hE hb hk1 q1 (show xs[i]? = some xs[i] by simp [hlt]) w (fun σ' H' => J.yld i H' v H2 → g v σ' H2 fun σ2 H2 => wpSs X body _ σ2 H2) (fun F' fps' s' e' sl' l' go hy => ?_) hy
      obtain ⟨F2, u2, r2⟩ := y.yld i (enc xs[i]) F' H' v H2 l'.fr e'.sub (kp_le (Eo.up u) l') (by rw [List.getElem?_map]; simp [hlt]) hy
      exact hB s' xs[i] F2 H2 σ' fps' v _ (e'.up u2) r2 fun σ3 fps3 e3 _ h3 l3 => go F2 H2 σ3 fps3 e3 (sl'.same h3 hv) (u2.le.trans l3)
  · obtain ⟨F', fps', s', e', sl', l', hy, hp'⟩ := w.ex
    refine .inl ⟨y.stop i F' H' l'.fr e'.sub (kp_le (Eo.up u) l') (by rw [List.length_map]; omega), ?_⟩
    rw [List.drop_eq_nil_of_le (by omega)] at hy hp'
    exact hk1 s' F' H' σ' fps' hp' hy e' sl' l'
/-- for TARGET in d / d.items() / d.values(), d frozen data of the name at i -/
theorem run_forD {tg iter : Expr} {g : TG} {js : List Nat} {body : List Stmt} {P : S → A → Prop} {Q : S → Prop} {s0 : S} {xs : List A} {ds : List (Key × Dt)} (i : Nat) (hgi : G[i]? = some (some (.fz (.dic ds)))) (enc : A → Dt) (Gs : S → Env) (Gb : S → A → Env) (E : T → Out) (step : S → A → Step S R) (io : R → T) (k : S → T)
    (hp : PassesOwn (model X.prog X.w) X.A X.env X.xe) (hc : X.calm = true) (hg : PG X tg g) (hv : noneIn sv.ks js = true) (hE : ∀ y, TermR (E (io y)))
    (hi : ISrcL (Lck i) (one X) K G tg iter (xs.map enc)) (h0 : Weak G (Gs s0)) (hB : ∀ s x, Bd K g js (enc x) (Gs s) (Gb s x)) (hP : LoopAll P Q step xs s0)
    (hb : ∀ s x, x ∈ xs → P s x → Run X K W sv body (Gb s x) ((step s x).out Gs fun y => E (io y)))
    (hk : ∀ s, Q s → Run X K W sv rest (Gs s) (E (k s))) (ho : E (loop step io k xs s0) = o := by rfl) : Run X K W sv (.For tg iter body [] pos :: rest) G o := ho ▸ fun F H σ fps D Eo s q => by
  obtain ⟨v, h1, h2⟩ := Eo.ent i _ hgi
  obtain ⟨hf, r⟩ := h2.there
  cases r with
  | @dic a vs _ ha l rk nd =>
    rcases Eo.sub a _ ha with hH | ⟨_, od0, hH⟩
    · have body_ : ∀ od, ∃ t, PS X (.For tg iter body [] pos) t ∧ t (lkEnds a od vs { D with nx := wpSs X rest D }) σ (upd H a (.frz od (.dK vs))) := fun od => by
        refine st_forL (Lck i) enc Gs Gb E step io k hp hc hg hv (fun y => (hE y).term) hi h0 hB hP hb (Eo.lock ha) ⟨a, od, vs, h1, ha, upd_same⟩ s (fun s' F' H' σ' fps' hQ hy e' sl' l' => ?_) ?_
        · have hd := kp_dict Eo l' ha
          have hF' := l'.fr a _ ha
          refine ⟨hd, hk s' hQ F' _ σ' fps' D (e'.unlock hF' hd) sl' ?_⟩
          rw [hy]
          exact q.le (l'.unlock ha hH hd fun y => by have := (Eo.ownF y).1; rw [ha] at this; cases this)
        · by_cases hz : ∃ y, loop step io k xs s0 = io y
          · obtain ⟨y, hz⟩ := hz
            have hT := hE y
            rw [← hz] at hT
            refine .inl ?_
            refine Fin.lock Eo ha hH hT ?_
            exact Fin.term (D := D) (D' := { D with nx := wpSs X rest D }) rfl hT.term q
          · exact .inr fun y z => hz ⟨y, z⟩
      refine ⟨tSeq (tLock (wpS X (.For tg iter body [] pos))) (wpSs X rest), pss_cons (ps_lock ps_wp) pss_wp, a, .dK vs, hH, trivial, fun od => ?_⟩
      exact body_ od
    · obtain ⟨t, ht, hq⟩ := st_forL (D := { D with nx := wpSs X rest D }) (Lck i) enc Gs Gb E step io k hp hc hg hv (fun y => (hE y).term) hi h0 hB hP hb Eo ⟨a, od0, vs, h1, ha, hH⟩ s (fun s' F' H' σ' fps' hQ hy e' sl' l' => hk s' hQ F' H' σ' fps' D e' sl' (by rw [hy]; exact q.le l')) (by
        by_cases hz : ∃ y, loop step io k xs s0 = io y
        · obtain ⟨y, hz⟩ := hz
          have hT := hE y
          rw [← hz] at hT
          exact .inl (Fin.term (D := D) (D' := { D with nx := wpSs X rest D }) rfl hT.term q)
        · exact .inr fun y z => hz ⟨y, z⟩)
      exact ⟨tSeq t (wpSs X rest), pss_cons ht pss_wp, hq⟩
end
end Vs

/-! d.items(), min and max of two, any, all, sum, list.pop. -/
namespace Vs
open PySem PySem.Spec L2
section
variable {X : Cx} {K : PySem.W.Frag} {G : Env} {κ A : Type} {g : κ → Key} {f : A → Dt} {kvs : List (κ × A)}
/-- d.items() -/
theorem src_items {I : Type} {X : I → Cx} {x : Str} {p apos cpos tpos : Pos} {elts : List Expr} {kk : Nat} {fk : κ → Dt} (i : Nat) (hg : G[i]? = some (some (.fz (.dic (encK g f kvs))))) (hk : ∀ k, keyD (g k) = fk k) (hN : ∀ j, (X j).N[i]? = some x := by intro _; rfl) (hv : ∀ j, Vis (X j).env.scope x := by first | exact fun _ => Or.inl rfl | exact fun _ => Or.inr (Or.inl rfl) | exact fun _ => Or.inr (Or.inr rfl))
    (hd : (x == ("__debug__" : Str)) = false := by decide) (hcd : (x == ("__classdict__" : Str)) = false := by decide) (hbase : ∀ j, attributeBase (.Name x p) "items" (X j).env (eval (.Name x p) (X j).env) = eval (.Name x p) (X j).env := by intro _; rfl) (hline : (apos.endLine == cpos.line) = true := by rfl)
    (hs : ∀ i y, foldedSetIterable (.Call (.Attribute (.Name x p) "items" apos) [] [] cpos) (X i).env y = pure y := by intro _ _; rfl) :
    ISrcL (Lck i) X K G (.Tuple elts kk tpos) (.Call (.Attribute (.Name x p) "items" apos) [] [] cpos) (kvs.map fun z : κ × A => Dt.tup [fk z.1, f z.2]) :=
  ⟨iItems (tVar i), fun j => pi_items (pe_var (hN j) (hv j) hd hcd) (hbase j) hline, hs, fun F H σ fps R Eo hL q => by
    obtain ⟨a, o, vs, h1, l3, rk, kp⟩ := lck_rep Eo hL hg
    have hl := repK_len rk
    have rv := repK_valsL rk
    have rn := repK_keysL rk
    refine ⟨_, h1, a, o, vs, rfl, l3, q _ F H (Up.refl Eo.sub) ⟨fun j F' H' e s k hj => ⟨kp F' H' e k, by rw [List.length_map] at hj; omega⟩, fun j F' H' e s k hj => ⟨kp F' H' e k, by rw [List.length_map] at hj; omega⟩, fun j d F' H' v H'' e s k hd hy => ?_⟩⟩
    obtain ⟨T, k', v', hk', rfl, hT, rfl⟩ := hy
    rw [List.getElem?_map] at hd
    cases hz : kvs[j]? with
    | none => rw [hz] at hd; cases hd
    | some z =>
      rw [hz] at hd
      have hd' : Dt.tup [fk z.1, f z.2] = d := Option.some.inj hd
      subst hd'
      obtain ⟨w1, e1, r1⟩ := rn.get (show (kvs.map fun z => keyD (g z.1))[j]? = some (keyD (g z.1)) by rw [List.getElem?_map, hz]; rfl)
      obtain ⟨w2, e2, r2⟩ := rv.get (show (kvs.map fun z => f z.2)[j]? = some (f z.2) by rw [List.getElem?_map, hz]; rfl)
      rw [List.getElem?_map, hk'] at e1 e2
      cases e1; cases e2
      rw [hk] at r1
      have nF := s.none hT
      exact ⟨upd F' T (.tup [kV k', v']), Up.lay s hT, .tup upd_same (Nat.le_of_ble_eq_true rfl) (.cons ((r1.mono e).mono (Ex.new nF)) (.cons ((r2.mono e).mono (Ex.new nF)) .nil))⟩⟩
end
section
variable {I : Type} {X : I → Cx} {K : PySem.W.Frag} {G : Env}
theorem ex_min2 {a b : Expr} {p pos : Pos} {i j : Int} (hc : ∀ j, (X j).calm = true) (ha : EX X K G a (.int i)) (hb : EX X K G b (.int j)) (hg : ∀ j, Gl (X j) "min") (hm : ∀ j, (X j).mg "min" = none)
    (h1 : ∀ j, starEach [a, b] (X j).env = (false, eval a (X j).env) :: starEach [b] (X j).env := by intro _; rfl) (h2 : ∀ j, starEach [b] (X j).env = [(false, eval b (X j).env)] := by intro _; rfl) (hpl : ∀ j, (backTo pos (starEach [b] (X j).env)).any (·.1) = false := by intro _; rfl) : EX X K G (.Call (.Name "min" p) [a, b] [] pos) (.int (if j < i then j else i)) := fun F H σ fps Q k q =>
  ⟨tCB (fun xs H Q => ∃ i j, xs = [.int i, .int j] ∧ Q (.int (if j < i then j else i)) H) (tCons (wpE X a) (tCons (wpE X b) tNil)), fun m => pe_callB (call_min2 (hc m)) (hg m) (hm m) (by decide +kernel) (pa_cons (pe_wp m) (pa_cons (pe_wp m) pa_nil (h2 m)) (h1 m)) (by decide) (by decide) (h1 m) (hpl m),
   ha F H σ fps _ k fun F1 H1 v u r => hb F1 H1 σ fps _ (k.up u) fun F2 H2 w u2 r2 => by
    cases r; cases r2
    exact ⟨i, j, rfl, q F2 H2 _ (u.trans u2) (.int _)⟩⟩
theorem ex_max2 {a b : Expr} {p pos : Pos} {i j : Int} (hc : ∀ j, (X j).calm = true) (ha : EX X K G a (.int i)) (hb : EX X K G b (.int j)) (hg : ∀ j, Gl (X j) "max") (hm : ∀ j, (X j).mg "max" = none)
    (h1 : ∀ j, starEach [a, b] (X j).env = (false, eval a (X j).env) :: starEach [b] (X j).env := by intro _; rfl) (h2 : ∀ j, starEach [b] (X j).env = [(false, eval b (X j).env)] := by intro _; rfl) (hpl : ∀ j, (backTo pos (starEach [b] (X j).env)).any (·.1) = false := by intro _; rfl) : EX X K G (.Call (.Name "max" p) [a, b] [] pos) (.int (if j > i then j else i)) := fun F H σ fps Q k q =>
  ⟨tCB (fun xs H Q => ∃ i j, xs = [.int i, .int j] ∧ Q (.int (if j > i then j else i)) H) (tCons (wpE X a) (tCons (wpE X b) tNil)), fun m => pe_callB (call_max2 (hc m)) (hg m) (hm m) (by decide +kernel) (pa_cons (pe_wp m) (pa_cons (pe_wp m) pa_nil (h2 m)) (h1 m)) (by decide) (by decide) (h1 m) (hpl m),
   ha F H σ fps _ k fun F1 H1 v u r => hb F1 H1 σ fps _ (k.up u) fun F2 H2 w u2 r2 => by
    cases r; cases r2
    exact ⟨i, j, rfl, q F2 H2 _ (u.trans u2) (.int _)⟩⟩
theorem repL_bls {F : Hp} : ∀ {bs : List Bool} {vs : List V}, RepL K F vs (bs.map Dt.bl) → vs = bs.map V.bl
  | [], _, .nil => rfl
  | b :: bs, _, .cons h t => by cases h; rw [repL_bls t]; rfl
theorem repL_ints {F : Hp} : ∀ {ns : List Int} {vs : List V}, RepL K F vs (ns.map Dt.int) → vs = ns.map V.int
  | [], _, .nil => rfl
  | b :: bs, _, .cons h t => by cases h; rw [repL_ints t]; rfl
theorem ex_any {e : Expr} {p pos : Pos} {bs : List Bool} (hc : ∀ j, (X j).calm = true) (hK : ∀ j, (X j).K = K) (h : ES X K G e false (bs.map Dt.bl)) (hg : ∀ j, Gl (X j) "any") (hm : ∀ j, (X j).mg "any" = none)
    (he : ∀ j, starEach [e] (X j).env = [(false, eval e (X j).env)] := by intro _; rfl) : EX X K G (.Call (.Name "any" p) [e] [] pos) (.bl (bs.any id)) := fun F H σ fps Q k q =>
  ⟨tCB (rAny K) (tCons (wpE X e) tNil), fun j => hK j ▸ pe_callB (cr_any (hc j)) (hg j) (hm j) (by decide +kernel) (pa_cons (pe_wp j) pa_nil (he j)) (by decide) (by decide) (he j) rfl, h F H σ fps _ k fun F1 H1 a vs u r l rl => by
    obtain rfl := repL_bls rl
    exact ⟨a, bs, rfl, r, q F1 H1 _ u (.bl _)⟩⟩
theorem ex_all {e : Expr} {p pos : Pos} {bs : List Bool} (hc : ∀ j, (X j).calm = true) (hK : ∀ j, (X j).K = K) (h : ES X K G e false (bs.map Dt.bl)) (hg : ∀ j, Gl (X j) "all") (hm : ∀ j, (X j).mg "all" = none)
    (he : ∀ j, starEach [e] (X j).env = [(false, eval e (X j).env)] := by intro _; rfl) : EX X K G (.Call (.Name "all" p) [e] [] pos) (.bl (bs.all id)) := fun F H σ fps Q k q =>
  ⟨tCB (rAll K) (tCons (wpE X e) tNil), fun j => hK j ▸ pe_callB (cr_all (hc j)) (hg j) (hm j) (by decide +kernel) (pa_cons (pe_wp j) pa_nil (he j)) (by decide) (by decide) (he j) rfl, h F H σ fps _ k fun F1 H1 a vs u r l rl => by
    obtain rfl := repL_bls rl
    exact ⟨a, bs, rfl, r, q F1 H1 _ u (.bl _)⟩⟩
theorem ex_sum {e : Expr} {p pos : Pos} {ns : List Int} (hc : ∀ j, (X j).calm = true) (hK : ∀ j, (X j).K = K) (h : ES X K G e false (ns.map Dt.int)) (hg : ∀ j, Gl (X j) "sum") (hm : ∀ j, (X j).mg "sum" = none)
    (he : ∀ j, starEach [e] (X j).env = [(false, eval e (X j).env)] := by intro _; rfl) : EX X K G (.Call (.Name "sum" p) [e] [] pos) (.int ns.sum) := fun F H σ fps Q k q =>
  ⟨tCB (rSum K) (tCons (wpE X e) tNil), fun j => hK j ▸ pe_callB (cr_sum (hc j)) (hg j) (hm j) (by decide +kernel) (pa_cons (pe_wp j) pa_nil (he j)) (by decide) (by decide) (he j) rfl, h F H σ fps _ k fun F1 H1 a vs u r l rl => by
    obtain rfl := repL_ints rl
    exact ⟨a, ns, rfl, r, q F1 H1 _ u (.int _)⟩⟩
end
section
variable {X : Cx} {K : PySem.W.Frag} {G : Env}
theorem RepL.dropLast {F : Hp} : ∀ {vs : List V} {ds : List Dt}, RepL K F vs ds → RepL K F vs.dropLast ds.dropLast
  | _, _, .nil => .nil
  | _, _, .cons h .nil => .nil
  | _, _, .cons h (.cons h2 t) => .cons h (RepL.dropLast (.cons h2 t))
def lastD {A : Type} [Inhabited A] (xs : List A) : A := xs.getLast?.getD default
theorem last_of {A : Type} [Inhabited A] {xs : List A} (h : 0 < xs.length) : xs.getLast? = some (lastD xs) := by
  unfold lastD
  cases e : xs.getLast? with
  | some y => rfl
  | none =>
    rw [List.getLast?_eq_none_iff] at e
    subst e
    exact absurd h (Nat.lt_irrefl 0)
/-- xs.pop(), xs an own list that has something -/
theorem ev_pop {A : Type} {i : Nat} {π : List Nat} {t : Expr} {apos cpos : Pos} {xs : List A} {y : A} {G' : Env} (f : A → Dt) (hK : X.K = K) (ht : EP (one X) K G t i π) (hg : atG G i π = some (.ol (xs.map f))) (hy : xs.getLast? = some y) (hG : updG G i π (.ol (xs.dropLast.map f)) = G')
    (hbase : attributeBase t "pop" X.env (eval t X.env) = eval t X.env := by rfl)
    (hline : (apos.endLine == cpos.line) = true := by rfl) : EV X K G (.Call (.Attribute t "pop" apos) [] [] cpos) (.fz (f y)) G' := fun F H σ fps Q Eo q => by
  subst hG
  refine ⟨_, fun _ => pe_bm0 PySem.F.plainAttrs_list PySem.F.slot_list_pop PySem.F.type_list_pop mt_pop pe_w1 hbase hline, ht F H σ fps _ Eo fun F0 H0 v u0 l0 => ?_⟩
  obtain ⟨fpc0, r0, _⟩ := (Eo.up u0).loc hg l0
  obtain ⟨p, vs, rfl, _, h2, l, r⟩ := r0.ol_inv
  have hlen : vs.length = xs.length := by rw [r.len, List.length_map]
  have hne : xs ≠ [] := fun z => by subst z; cases hy
  have hlast : xs[xs.length - 1]? = some y := by rw [← List.getLast?_eq_getElem?]; exact hy
  obtain ⟨w, w1, w2⟩ := r.get (show (xs.map f)[xs.length - 1]? = some (f y) by rw [List.getElem?_map, hlast]; rfl)
  have rd := r.dropLast
  rw [← List.map_dropLast] at rd
  obtain ⟨fps2, E2, le2⟩ := (Eo.up u0).set1 (fq := []) hg l0 (fun fpc r a => by obtain ⟨p', _, e1, e2, _⟩ := r.ol_inv; cases e1; rw [e2]; simp) (.lst vs.dropLast) (.ol (xs.dropLast.map f)) (.ol upd_same (by rw [List.length_dropLast]; omega) rd)
  refine ⟨.inl ⟨rfl, vs, SqL.of h2⟩, p, vs, w, rfl, rfl, h2, by rw [hlen]; exact w1, ?_⟩
  have le3 := u0.le (O := Owns fps) |>.trans le2
  exact q F0 _ w [] fps2 E2 ⟨le3.fr, le3.hp, le3.nw, fun a z => le3.ow a (z.elim (fun y => nomatch y) id)⟩ (.fz w2) fun a ha => nomatch ha
end
theorem eqt_tup4 {A B C D : Type} [BEq A] [BEq B] [BEq C] [BEq D] {f : A → Dt} {g : B → Dt} {k : C → Dt} {j : D → Dt} {n m l o : Nat} (h : EqT f n) (h2 : EqT g m) (h3 : EqT k l) (h4 : EqT j o) : EqT (fun z : A × B × C × D => Dt.tup [f z.1, g z.2.1, k z.2.2.1, j z.2.2.2]) (max n (max m (max l o)) + 1) := ⟨fun z => by
  show ((f z.1).flat && ((g z.2.1).flat && ((k z.2.2.1).flat && ((j z.2.2.2).flat && true)))) = true
  rw [h.fl, h2.fl, h3.fl, h4.fl]; rfl, fun z => by
  simp only [Dt.py, Dt.pyL]
  unfold PyData.depth PyData.depthAll PyData.depthAll PyData.depthAll PyData.depthAll PyData.depthAll
  have := h.dp z.1
  have := h2.dp z.2.1
  have := h3.dp z.2.2.1
  have := h4.dp z.2.2.2
  omega, fun z y => by
  simp only [Dt.py, Dt.pyL]
  unfold PyData.eqv PyData.eqvAll PyData.eqvAll PyData.eqvAll PyData.eqvAll PyData.eqvAll
  rw [h.eq, h2.eq, h3.eq, h4.eq, Bool.and_true]
  rfl⟩
end Vs

/-! Plain laws: dicts as maps; loops as folds; what becomes sure, round by round. -/
namespace Vs
open PySem PySem.Spec L2
section
variable {κ A : Type} [DecidableEq κ]
theorem gets_puts_same (k : κ) (a : A) : ∀ d : List (κ × A), gets (puts d k a) k = some a
  | [] => by simp [puts, gets]
  | p :: r => by
    unfold puts
    split
    · rename_i e; simp [gets, e]
    · rename_i e; simp [gets, e, gets_puts_same k a r]
theorem gets_puts_ne {k j : κ} (a : A) (h : j ≠ k) : ∀ d : List (κ × A), gets (puts d k a) j = gets d j
  | [] => by simp [puts, gets, Ne.symm h]
  | p :: r => by
    unfold puts
    split
    · rename_i e
      have : ¬ p.1 = j := fun z => h (z.symm.trans e)
      simp [gets, this]
    · rename_i e
      simp [gets, gets_puts_ne a h r]
theorem puts_idem {k : κ} {a : A} : ∀ {d : List (κ × A)}, gets d k = some a → puts d k a = d
  | [], h => by cases h
  | p :: r, h => by
    unfold gets at h
    unfold puts
    split at h
    · rename_i e
      cases h
      rw [if_pos e]
    · rename_i e
      rw [if_neg e, puts_idem h]
theorem gets_none_iff {k : κ} : ∀ {d : List (κ × A)}, gets d k = none ↔ k ∉ d.map (·.1)
  | [] => by simp [gets]
  | p :: r => by
    unfold gets
    split
    · rename_i e; simp [e]
    · rename_i e
      rw [gets_none_iff (d := r), List.map_cons, List.mem_cons, not_or]
      exact ⟨fun h => ⟨fun z => e z.symm, h⟩, fun h => h.2⟩
theorem hasK_iff {k : κ} {d : List (κ × A)} : hasK d k = true ↔ k ∈ d.map (·.1) := by
  unfold hasK
  cases e : gets d k with
  | none => simp [gets_none_iff.mp e]
  | some a =>
    have : k ∈ d.map (·.1) := by
      by_cases h : k ∈ d.map (·.1)
      · exact h
      · rw [gets_none_iff.mpr h] at e; cases e
    simp [this]
theorem puts_fst_in {k : κ} {a : A} : ∀ {d : List (κ × A)}, k ∈ d.map (·.1) → (puts d k a).map (·.1) = d.map (·.1)
  | [], h => by simp at h
  | p :: r, h => by
    unfold puts
    split
    · rfl
    · rename_i e
      rw [List.map_cons, List.mem_cons] at h
      rcases h with h | h
      · exact absurd h.symm e
      · rw [List.map_cons, List.map_cons, puts_fst_in h]
theorem puts_fst_out {k : κ} {a : A} : ∀ {d : List (κ × A)}, k ∉ d.map (·.1) → (puts d k a).map (·.1) = d.map (·.1) ++ [k]
  | [], _ => rfl
  | p :: r, h => by
    rw [List.map_cons, List.mem_cons, not_or] at h
    unfold puts
    rw [if_neg (fun z => h.1 z.symm), List.map_cons, List.map_cons, puts_fst_out h.2]
    rfl
theorem gets_mem_nodup {p : κ × A} : ∀ {d : List (κ × A)}, (d.map (·.1)).Nodup → p ∈ d → gets d p.1 = some p.2
  | [], _, h => by simp at h
  | q :: r, nd, h => by
    rw [List.map_cons, List.nodup_cons] at nd
    unfold gets
    rcases List.mem_cons.mp h with h | h
    · subst h; rw [if_pos rfl]
    · have : ¬ q.1 = p.1 := fun z => nd.1 (by rw [z]; exact List.mem_map.mpr ⟨p, h, rfl⟩)
      rw [if_neg this, gets_mem_nodup nd.2 h]
/-- the keys are unlike, and among U -/
structure Kd (U : List κ) (d : List (κ × A)) : Prop where
  nd : (d.map (·.1)).Nodup
  sb : ∀ k ∈ d.map (·.1), k ∈ U
theorem Kd.nil {U : List κ} : Kd U ([] : List (κ × A)) := ⟨List.nodup_nil, fun k h => by simp at h⟩
theorem Kd.put {U : List κ} {d : List (κ × A)} (h : Kd U d) {k : κ} {a : A} (hk : k ∈ U) : Kd U (puts d k a) := by
  refine ⟨puts_nodup h.nd, fun j hj => ?_⟩
  obtain ⟨z, hz, rfl⟩ := List.mem_map.mp hj
  rcases mem_puts hz with rfl | hz
  · exact hk
  · exact h.sb _ (List.mem_map.mpr ⟨z, hz, rfl⟩)
theorem nodup_le : ∀ {l U : List κ}, l.Nodup → (∀ x ∈ l, x ∈ U) → l.length ≤ U.length
  | [], U, _, _ => Nat.zero_le _
  | x :: l, U, nd, h => by
    rw [List.nodup_cons] at nd
    have hx := h x (by simp)
    have := nodup_le (U := U.erase x) nd.2 fun y hy => (List.mem_erase_of_ne (fun z => nd.1 (by rw [← z]; exact hy))).mpr (h y (List.mem_cons_of_mem _ hy))
    rw [List.length_erase_of_mem hx] at this
    have h1 : 1 ≤ U.length := List.length_pos_of_mem hx
    rw [List.length_cons]
    omega
theorem Kd.len {U : List κ} {d : List (κ × A)} (h : Kd U d) : d.length ≤ U.length := by
  have := nodup_le h.nd h.sb
  rw [List.length_map] at this
  exact this
/-- alike as maps -/
theorem dEq_of [BEq A] [LawfulBEq A] {xs ys : List (κ × A)} (nx : (xs.map (·.1)).Nodup) (ny : (ys.map (·.1)).Nodup) (h : ∀ k, gets xs k = gets ys k) : dEq xs ys = true := by
  have hm : ∀ k, k ∈ xs.map (·.1) ↔ k ∈ ys.map (·.1) := fun k => by rw [← hasK_iff, ← hasK_iff]; unfold hasK; rw [h k]
  have e1 := nodup_le nx fun k hk => (hm k).mp hk
  have e2 := nodup_le ny fun k hk => (hm k).mpr hk
  rw [List.length_map, List.length_map] at e1 e2
  unfold dEq
  rw [show xs.length = ys.length by omega, beq_self_eq_true, Bool.true_and]
  have go : ∀ l : List (κ × A), (∀ p ∈ l, p ∈ xs) → dAll ys l = true := by
    intro l
    induction l with
    | nil => intro _; rfl
    | cons p r ih =>
      intro hl
      unfold dAll
      have g := gets_mem_nodup nx (hl p (by simp))
      rw [h p.1] at g
      rw [g]
      show (p.2 == p.2 && dAll ys r) = true
      rw [beq_self_eq_true, ih fun q hq => hl q (List.mem_cons_of_mem _ hq)]
      rfl
  exact go xs fun p hp => hp
end
/-! loops as folds -/
theorem loop_fold {A S T R : Type} {step : S → A → Step S R} {io : R → T} {k : S → T} {P : S → A → Prop} {Q : S → Prop} (f : S → A → S) (Inv : S → Prop) : ∀ {xs : List A} {s : S}, Inv s → (∀ s x, x ∈ xs → Inv s → P s x ∧ step s x = .nx (f s x) ∧ Inv (f s x)) → (Inv (xs.foldl f s) → Q (xs.foldl f s)) →
    LoopAll P Q step xs s ∧ loop step io k xs s = k (xs.foldl f s) ∧ Inv (xs.foldl f s)
  | [], s, h0, _, hq => ⟨hq h0, rfl, h0⟩
  | x :: xs, s, h0, hs, hq => by
    obtain ⟨hp, e, h1⟩ := hs s x (by simp) h0
    obtain ⟨a, b, c⟩ := loop_fold (io := io) (k := k) (P := P) (Q := Q) f Inv (xs := xs) (s := f s x) h1 (fun t y hy ht => hs t y (List.mem_cons_of_mem _ hy) ht) hq
    refine ⟨⟨hp, ?_⟩, ?_, c⟩
    · rw [e]; exact a
    · unfold loop; rw [e]; exact b
theorem loop_foldi {A S T R : Type} {step : S → A → Step S R} {io : R → T} {k : S → T} {P : S → A → Prop} {Q : S → Prop} (f : S → A → S) (Inv : Nat → S → Prop) : ∀ {xs : List A} {i0 : Nat} {s : S}, Inv i0 s → (∀ i s x, x ∈ xs → i < i0 + xs.length → Inv i s → P s x ∧ step s x = .nx (f s x) ∧ Inv (i + 1) (f s x)) → (Inv (i0 + xs.length) (xs.foldl f s) → Q (xs.foldl f s)) →
    LoopAll P Q step xs s ∧ loop step io k xs s = k (xs.foldl f s) ∧ Inv (i0 + xs.length) (xs.foldl f s)
  | [], i0, s, h0, _, hq => ⟨hq h0, rfl, h0⟩
  | x :: xs, i0, s, h0, hs, hq => by
    have e0 : i0 + (x :: xs).length = i0 + 1 + xs.length := by rw [List.length_cons]; omega
    rw [e0] at hs hq ⊢
    obtain ⟨hp, e, h1⟩ := hs i0 s x (by simp) (by omega) h0
    obtain ⟨a, b, c⟩ := loop_foldi (io := io) (k := k) (P := P) (Q := Q) f Inv (xs := xs) (i0 := i0 + 1) (s := f s x) h1 (fun i t y hy hi ht => hs i t y (List.mem_cons_of_mem _ hy) hi ht) hq
    refine ⟨⟨hp, ?_⟩, ?_, c⟩
    · rw [e]; exact a
    · unfold loop; rw [e]; exact b
theorem itm_in {A : Type} [Inhabited A] {xs : List A} {j : Int} (h0 : 0 ≤ j) (h1 : j < xs.length) : itm xs j ∈ xs := by
  rw [itm_nn h0 h1, List.getD_eq_getElem?_getD, List.getElem?_eq_getElem (by omega)]
  exact List.getElem_mem _
/-! what becomes sure -/
abbrev Ru := Bool × Str × List Str
abbrev Th := List (Str × Bool)
abbrev Rk := List (Str × Int)
def okR (t : Th) (a : Ru) : Bool := a.1 && (!hasK t a.2.1 && a.2.2.all fun q => hasK t q)
/-- the heads that come in a round -/
def heads (rs : List Ru) (t : Th) : List Str := (rs.filter (okR t)).map fun a => a.2.1
def putT (d : Th) (h : Str) : Th := puts d h true
def putB (c : Int) (s : Th × Rk) (h : Str) : Th × Rk := (puts s.1 h true, puts s.2 h c)
def uniq (hs : List Str) : List Str := (hs.foldl putT []).map Prod.fst
theorem fold_heads {A S : Type} (v : A → Ru) (t : Th) (g : S → Str → S) : ∀ (rs : List A) (d : S), (rs.foldl (fun d x => cond (okR t (v x)) (g d (v x).2.1) d) d) = (heads (rs.map v) t).foldl g d
  | [], d => rfl
  | x :: rs, d => by
    rw [List.foldl_cons, fold_heads v t g rs, List.map_cons]
    unfold heads
    rw [List.filter_cons]
    cases okR t (v x) <;> rfl
theorem putB_mem {c : Int} {h : Str} : ∀ {hs : List Str} {s : Th × Rk}, (h ∈ hs ∨ gets s.1 h = some true ∧ gets s.2 h = some c) → gets (hs.foldl (putB c) s).1 h = some true ∧ gets (hs.foldl (putB c) s).2 h = some c
  | [], s, h => by
    rcases h with h | h
    · simp at h
    · exact h
  | x :: hs, s, h' => by
    rw [List.foldl_cons]
    refine putB_mem ?_
    by_cases e : h = x
    · subst e
      exact .inr ⟨gets_puts_same _ _ _, gets_puts_same _ _ _⟩
    · rcases h' with h' | ⟨h1, h2⟩
      · rcases List.mem_cons.mp h' with h' | h'
        · exact absurd h' e
        · exact .inl h'
      · refine .inr ⟨?_, ?_⟩
        · show gets (puts s.1 x true) h = _
          rw [gets_puts_ne _ e, h1]
        · show gets (puts s.2 x c) h = _
          rw [gets_puts_ne _ e, h2]
theorem putB_out {c : Int} {h : Str} : ∀ {hs : List Str} {s : Th × Rk}, h ∉ hs → gets (hs.foldl (putB c) s).1 h = gets s.1 h ∧ gets (hs.foldl (putB c) s).2 h = gets s.2 h
  | [], s, _ => ⟨rfl, rfl⟩
  | x :: hs, s, h' => by
    rw [List.mem_cons, not_or] at h'
    rw [List.foldl_cons]
    obtain ⟨a, b⟩ := putB_out (c := c) (hs := hs) (s := putB c s x) h'.2
    rw [a, b]
    exact ⟨gets_puts_ne _ h'.1 _, gets_puts_ne _ h'.1 _⟩
theorem uniq_go (c : Int) (s : Th × Rk) : ∀ (hs : List Str) (d : Th), ((hs.foldl putT d).map Prod.fst).foldl (putB c) s = hs.foldl (putB c) ((d.map Prod.fst).foldl (putB c) s)
  | [], d => rfl
  | h :: hs, d => by
    rw [List.foldl_cons, List.foldl_cons, uniq_go c s hs (putT d h)]
    congr 1
    unfold putT
    by_cases e : h ∈ d.map (·.1)
    · have e1 : (puts d h true).map Prod.fst = d.map Prod.fst := puts_fst_in e
      rw [e1]
      obtain ⟨a, b⟩ := putB_mem (c := c) (hs := d.map Prod.fst) (s := s) (.inl e)
      unfold putB at a b ⊢
      rw [puts_idem a, puts_idem b]
    · have e1 : (puts d h true).map Prod.fst = d.map Prod.fst ++ [h] := puts_fst_out e
      rw [e1, List.foldl_append]
      rfl
/-- each once is as good -/
theorem uniq_fold (c : Int) (s : Th × Rk) (hs : List Str) : (uniq hs).foldl (putB c) s = hs.foldl (putB c) s := uniq_go c s hs []
theorem putT_nil : ∀ (hs : List Str) (d : Th), (hs.foldl putT d = [] ↔ hs = [] ∧ d = [])
  | [], d => by simp
  | h :: hs, d => by
    rw [List.foldl_cons, putT_nil hs]
    have : putT d h ≠ [] := by
      unfold putT
      cases d with
      | nil => simp [puts]
      | cons p r => unfold puts; split <;> simp
    simp [this]
theorem uniq_nil (hs : List Str) : (uniq hs == []) = (hs == []) := by
  unfold uniq
  have := putT_nil hs []
  cases hs with
  | nil => rfl
  | cons h t =>
    have ne : List.foldl putT [] (h :: t) ≠ [] := fun z => by have := this.mp z; simp at this
    cases e : List.foldl putT [] (h :: t) with
    | nil => exact absurd e ne
    | cons p r => rfl
/-- how many rules wait -/
def waits (rs : List Ru) (t : Th) : Nat := (rs.filter fun a => !hasK t a.2.1).length
theorem filter_le {A : Type} {p q : A → Bool} (h : ∀ x, q x = true → p x = true) : ∀ l : List A, (l.filter q).length ≤ (l.filter p).length
  | [] => Nat.le_refl _
  | x :: l => by
    have ih := filter_le h l
    rw [List.filter_cons, List.filter_cons]
    cases e : q x with
    | true => rw [h x e]; simpa using ih
    | false =>
      cases p x with
      | true => simp only [if_true, List.length_cons, Bool.false_eq_true, if_false]; omega
      | false => simpa using ih
theorem filter_lt {A : Type} {p q : A → Bool} (h : ∀ x, q x = true → p x = true) {a : A} : ∀ {l : List A}, a ∈ l → p a = true → q a = false → (l.filter q).length < (l.filter p).length
  | [], ha, _, _ => by simp at ha
  | x :: l, ha, hp, hq => by
    rw [List.filter_cons, List.filter_cons]
    rcases List.mem_cons.mp ha with rfl | ha
    · rw [hp, hq]
      have := filter_le h l
      simp only [if_true, List.length_cons, Bool.false_eq_true, if_false]; omega
    · have ih := filter_lt h ha hp hq
      cases e : q x with
      | true => rw [h x e]; simpa using ih
      | false =>
        cases p x with
        | true => simp only [if_true, List.length_cons, Bool.false_eq_true, if_false]; omega
        | false => simpa using ih
theorem waits_lt {rs : List Ru} {s : Th × Rk} {c : Int} (h : heads rs s.1 ≠ []) : waits rs ((heads rs s.1).foldl (putB c) s).1 < waits rs s.1 := by
  obtain ⟨x, hx⟩ := List.exists_mem_of_ne_nil _ h
  have hx0 := hx
  unfold heads at hx
  obtain ⟨a, ha, rfl⟩ := List.mem_map.mp hx
  obtain ⟨a1, a2⟩ := List.mem_filter.mp ha
  unfold okR at a2
  simp only [Bool.and_eq_true] at a2
  refine filter_lt (fun b hb => ?_) a1 a2.2.1 ?_
  · by_cases e : b.2.1 ∈ heads rs s.1
    · have := (putB_mem (c := c) (s := s) (.inl e)).1
      unfold hasK at hb
      rw [this] at hb; cases hb
    · unfold hasK at hb ⊢
      rw [(putB_out (c := c) (s := s) e).1] at hb
      exact hb
  · unfold hasK
    rw [(putB_mem (c := c) (s := s) (.inl hx0)).1]; rfl
/-- the rounds: so many at most, the next one's number, what is there and the ranks -/
def sureGo (rs : List Ru) : Nat → Int → Th × Rk → Th × Rk
  | 0, _, s => s
  | n + 1, c, s => cond (heads rs s.1 == []) s (sureGo rs n (c + 1) ((heads rs s.1).foldl (putB c) s))
theorem sureGo_stop {rs : List Ru} {s : Th × Rk} (h : heads rs s.1 = []) (n : Nat) (c : Int) : sureGo rs n c s = s := by
  cases n with
  | zero => rfl
  | succ n => unfold sureGo; rw [h]; rfl
theorem waits_le (rs : List Ru) (t : Th) : waits rs t ≤ rs.length := List.length_filter_le _ _
theorem heads_nil_of {rs : List Ru} {t : Th} (h : waits rs t = 0) : heads rs t = [] := by
  cases e : heads rs t with
  | nil => rfl
  | cons x l =>
    have := waits_lt (rs := rs) (s := (t, [])) (c := 0) (by rw [e]; simp)
    rw [show waits rs (t, ([] : Rk)).1 = 0 from h] at this
    omega
theorem heads_mem {rs : List Ru} {t : Th} {h : Str} (hh : h ∈ heads rs t) : h ∈ rs.map (·.2.1) := by
  unfold heads at hh
  obtain ⟨a, ha, rfl⟩ := List.mem_map.mp hh
  exact List.mem_map.mpr ⟨a, (List.mem_filter.mp ha).1, rfl⟩
theorem heads_same {rs : List Ru} {t u : Th} (h : ∀ k, gets t k = gets u k) : heads rs t = heads rs u := by
  unfold heads
  congr 2
  funext a
  unfold okR hasK
  rw [h a.2.1]
  congr 3
  funext q
  rw [h q]
theorem heads_rev (rs : List Ru) (t : Th) : heads rs.reverse t = (heads rs t).reverse := by
  unfold heads
  rw [List.filter_reverse, List.map_reverse]
def Same2 (s u : Th × Rk) : Prop := (∀ k, gets s.1 k = gets u.1 k) ∧ ∀ k, gets s.2 k = gets u.2 k
theorem putB_same {c : Int} {hs hs' : List Str} (hm : ∀ h, h ∈ hs ↔ h ∈ hs') {s u : Th × Rk} (h : Same2 s u) : Same2 (hs.foldl (putB c) s) (hs'.foldl (putB c) u) := by
  refine ⟨fun k => ?_, fun k => ?_⟩
  · by_cases e : k ∈ hs
    · rw [(putB_mem (c := c) (s := s) (.inl e)).1, (putB_mem (c := c) (s := u) (.inl ((hm k).mp e))).1]
    · rw [(putB_out (c := c) (s := s) e).1, (putB_out (c := c) (s := u) (fun z => e ((hm k).mpr z))).1, h.1]
  · by_cases e : k ∈ hs
    · rw [(putB_mem (c := c) (s := s) (.inl e)).2, (putB_mem (c := c) (s := u) (.inl ((hm k).mp e))).2]
    · rw [(putB_out (c := c) (s := s) e).2, (putB_out (c := c) (s := u) (fun z => e ((hm k).mpr z))).2, h.2]
/-- the rules the other way round -/
theorem sureGo_rev (rs : List Ru) : ∀ (n : Nat) (c : Int) {s u : Th × Rk}, Same2 s u → Same2 (sureGo rs n c s) (sureGo rs.reverse n c u)
  | 0, _, _, _, h => h
  | n + 1, c, s, u, h => by
    unfold sureGo
    rw [heads_rev, ← heads_same h.1]
    have e : ((heads rs s.1).reverse == []) = (heads rs s.1 == []) := by
      cases heads rs s.1 with
      | nil => rfl
      | cons x l =>
        rw [List.reverse_cons]
        cases l.reverse <;> rfl
    rw [e]
    cases heads rs s.1 == [] with
    | true => exact h
    | false => exact sureGo_rev rs n (c + 1) (putB_same (fun x => by rw [List.mem_reverse]) h)
structure Kd2 (U V : List Str) (s : Th × Rk) : Prop where
  t : Kd U s.1
  r : Kd V s.2
theorem Kd2.put {U V : List Str} {s : Th × Rk} (h : Kd2 U V s) {x : Str} (h1 : x ∈ U) (h2 : x ∈ V) (c : Int) : Kd2 U V (putB c s x) := ⟨h.t.put h1, h.r.put h2⟩
theorem Kd2.fold {U V : List Str} {c : Int} : ∀ {hs : List Str} {s : Th × Rk}, Kd2 U V s → (∀ x ∈ hs, x ∈ U ∧ x ∈ V) → Kd2 U V (hs.foldl (putB c) s)
  | [], _, h, _ => h
  | x :: hs, s, h, hh => by
    rw [List.foldl_cons]
    exact Kd2.fold (hs := hs) (h.put (hh x (by simp)).1 (hh x (by simp)).2 c) fun y hy => hh y (List.mem_cons_of_mem _ hy)
theorem sureGo_kd {rs : List Ru} {U V : List Str} (hU : ∀ a ∈ rs, a.2.1 ∈ U ∧ a.2.1 ∈ V) : ∀ (n : Nat) (c : Int) {s : Th × Rk}, Kd2 U V s → Kd2 U V (sureGo rs n c s)
  | 0, _, _, h => h
  | n + 1, c, s, h => by
    unfold sureGo
    cases heads rs s.1 == [] with
    | true => exact h
    | false =>
      refine sureGo_kd hU n (c + 1) (h.fold fun x hx => ?_)
      obtain ⟨a, ha, rfl⟩ := List.mem_map.mp (heads_mem hx)
      exact hU a ha
end Vs

/-! Plain laws: what a ground keeps; searches. -/
namespace Vs
open PySem PySem.Spec L2 TL PySem.StrLaws
section
variable {κ A : Type} [DecidableEq κ]
theorem gets_apps_same (d : List (κ × List A)) (k : κ) (x : A) : (gets (apps d k x) k).getD [] = (gets d k).getD [] ++ [x] := by
  unfold apps
  rw [gets_puts_same]; rfl
theorem gets_apps_ne (d : List (κ × List A)) {k j : κ} (x : A) (h : j ≠ k) : gets (apps d k x) j = gets d j := by
  unfold apps
  rw [gets_puts_ne _ h]
theorem gets_heads (hd : A → κ) (k : κ) : ∀ (xs : List A) (d : List (κ × List A)), (gets (xs.foldl (fun d x => apps d (hd x) x) d) k).getD [] = (gets d k).getD [] ++ xs.filter fun x => decide (hd x = k)
  | [], d => by simp
  | x :: xs, d => by
    rw [List.foldl_cons, gets_heads hd k xs, List.filter_cons]
    by_cases e : hd x = k
    · rw [← e, gets_apps_same]
      simp
    · rw [gets_apps_ne _ _ (Ne.symm e)]
      simp [e]
theorem hasK_puts_all {A : Type} (a : A) (k : κ) : ∀ (xs : List κ) (d : List (κ × A)), hasK (xs.foldl (fun d x => puts d x a) d) k = (hasK d k || decide (k ∈ xs))
  | [], d => by simp
  | x :: xs, d => by
    rw [List.foldl_cons, hasK_puts_all a k xs]
    by_cases e : k = x
    · subst e
      unfold hasK
      rw [gets_puts_same]
      simp
    · unfold hasK
      rw [gets_puts_ne _ e]
      simp [e]
end
theorem anyEq_mem {A : Type} [DecidableEq A] [BEq A] [LawfulBEq A] (ys : List A) (x : A) : anyEq ys x = decide (x ∈ ys) := by
  unfold anyEq
  induction ys with
  | nil => rfl
  | cons y ys ih =>
    rw [List.any_cons, ih]
    by_cases e : y = x
    · subst e; simp
    · have : (y == x) = false := beq_eq_false_iff_ne.mpr e
      rw [this]
      simp [Ne.symm e]
theorem elem_mem {A : Type} [DecidableEq A] [BEq A] [LawfulBEq A] (ys : List A) (x : A) : List.elem x ys = decide (x ∈ ys) := by
  rw [Bool.eq_iff_iff]
  simp
/-- the other side: two ways to tell it -/
theorem first_minus {t : Str} (h : 1 ≤ t.length) : Txt.startswith t (Str.ofString "-") = (sgn t (0 : Int) == Str.ofString "-") := by
  rw [len_tl] at h
  rw [at0 (by rw [tl_minus]; simp), tl_minus]
  cases e : tl t with
  | nil => rw [e] at h; cases h
  | cons c l =>
    have e1 : sgn t (0 : Int) = ⟨#[c]⟩ := by
      unfold sgn
      rw [atI_get (xs := t.cps.toList) (by decide) (by show (0 : Int) < ((tl t).length : Int); rw [e, List.length_cons]; omega)]
      show _ = _
      have : (tl t)[(0 : Int).toNat]? = some c := by rw [e]; rfl
      rw [show t.cps.toList = tl t from rfl, this]
      rfl
    rw [e1]
    rw [Bool.eq_iff_iff]
    constructor
    · intro hp
      have : c = 45 := by
        have h2 : ((c :: l).take [45].length) = [45] := eq_of_beq hp
        simpa using h2
      subst this
      decide +kernel
    · intro hp
      have h2 : (⟨#[c]⟩ : Str) = Str.ofString "-" := eq_of_beq hp
      have h3 := congrArg tl h2
      rw [tl_minus] at h3
      have h4 : [c] = [45] := h3
      injection h4 with h4
      subst h4
      exact beq_self_eq_true _
theorem lcF_filter {A : Type} (p : A → Bool) (xs : List A) : lcF p (fun x => x) xs = xs.filter p := by
  unfold lcF
  induction xs with
  | nil => rfl
  | cons x xs ih =>
    rw [List.filterMap_cons, List.filter_cons, ← ih]
    cases h : p x <;> simp
/-- a search over a list -/
theorem search_any {A T : Type} {step : Unit → A → Step Unit T} {k : Unit → T} {P : Unit → A → Prop} {Q : Unit → Prop} {p : A → Bool} {y : T} (xs : List A) (h : ∀ x, x ∈ xs → step () x = cond (p x) (.fin y) (.nx ())) (hp : ∀ x, x ∈ xs → P () x) (hq : Q ()) : LoopAll P Q step xs () ∧ loop step (fun z => z) k xs () = cond (xs.any p) y (k ()) := by
  induction xs with
  | nil => exact ⟨hq, rfl⟩
  | cons x xs ih =>
    obtain ⟨a, b⟩ := ih (fun z hz => h z (List.mem_cons_of_mem _ hz)) (fun z hz => hp z (List.mem_cons_of_mem _ hz))
    have hx := h x (by simp)
    refine ⟨⟨hp x (by simp), ?_⟩, ?_⟩
    · rw [hx]
      cases p x
      · exact a
      · trivial
    · unfold loop
      rw [hx, List.any_cons]
      cases p x
      · exact b
      · rfl
end Vs

/-! Plain laws: all ways to give things to letters, the last letter fastest. -/
namespace Vs
open PySem PySem.Spec L2
abbrev Gv := List (Str × Str)
def waysP (L T : List Str) : List Gv := L.foldl (fun found l => found.flatMap fun g => T.map fun t => puts g l t) [[]]
/-- by the digits of a number, the first letter by the last digit -/
def digs (T : List Str) : List Str → Nat → Gv → Gv
  | [], _, d => d
  | l :: ls, i, d => digs T ls (i / T.length) (puts d l (T.getD (i % T.length) default))
theorem digs_out {T : List Str} {k : Str} : ∀ {ls : List Str} {i : Nat} {d : Gv}, k ∉ ls → gets (digs T ls i d) k = gets d k
  | [], _, _, _ => rfl
  | l :: ls, i, d, h => by
    rw [List.mem_cons, not_or] at h
    unfold digs
    rw [digs_out h.2, gets_puts_ne _ h.1]
theorem digs_in {T : List Str} {k : Str} : ∀ {ls : List Str} {i : Nat} {d d' : Gv}, k ∈ ls → gets (digs T ls i d) k = gets (digs T ls i d') k
  | [], _, _, _, h => by simp at h
  | l :: ls, i, d, d', h => by
    unfold digs
    by_cases e : k ∈ ls
    · exact digs_in e
    · rcases List.mem_cons.mp h with rfl | h
      · rw [digs_out e, digs_out e, gets_puts_same, gets_puts_same]
      · exact absurd h e
theorem flat_get {A B : Type} (T : List Str) (f : A → Str → B) (hT : 0 < T.length) : ∀ (xs : List A) (i : Nat), (xs.flatMap fun g => T.map fun t => f g t)[i]? = (xs[i / T.length]?).bind fun g => (T[i % T.length]?).map fun t => f g t
  | [], i => by simp
  | x :: xs, i => by
    rw [List.flatMap_cons]
    by_cases h : i < T.length
    · rw [List.getElem?_append_left (by rw [List.length_map]; exact h), List.getElem?_map, Nat.div_eq_of_lt h, Nat.mod_eq_of_lt h]
      rfl
    · rw [List.getElem?_append_right (by rw [List.length_map]; omega), List.length_map, flat_get T f hT xs]
      have h1 : i / T.length = (i - T.length) / T.length + 1 := by
        have : i = (i - T.length) + T.length := by omega
        conv => lhs; rw [this]
        rw [Nat.add_div_right _ hT]
      have h2 : i % T.length = (i - T.length) % T.length := by
        have : i = (i - T.length) + T.length := by omega
        conv => lhs; rw [this]
        rw [Nat.add_mod_right]
      rw [h1, h2, List.getElem?_cons_succ]
theorem waysP_snoc (L : List Str) (l : Str) (T : List Str) : waysP (L ++ [l]) T = (waysP L T).flatMap fun g => T.map fun t => puts g l t := by
  unfold waysP
  rw [List.foldl_append]
  rfl
theorem waysP_len {T : List Str} : ∀ L : List Str, (waysP L T).length = T.length ^ L.length := by
  intro L
  have go : ∀ (L : List Str) (d : List Gv), (L.foldl (fun found l => found.flatMap fun g => T.map fun t => puts g l t) d).length = d.length * T.length ^ L.length := by
    intro L
    induction L with
    | nil => intro d; simp
    | cons l L ih =>
      intro d
      rw [List.foldl_cons, ih]
      have e : (d.flatMap fun g => T.map fun t => puts g l t).length = d.length * T.length := by
        induction d with
        | nil => simp
        | cons x d ih2 => rw [List.flatMap_cons, List.length_append, ih2, List.length_map, List.length_cons, Nat.add_mul, Nat.one_mul, Nat.add_comm]
      rw [e, List.length_cons, Nat.pow_succ, Nat.mul_assoc, Nat.mul_comm (T.length ^ L.length)]
  rw [waysP, go]
  simp
/-- the ways in order are those by digits -/
theorem waysP_get {T : List Str} (hT : 0 < T.length) : ∀ (n : Nat) (L : List Str), L.length = n → L.Nodup → ∀ i, i < T.length ^ n → ∃ w, (waysP L T)[i]? = some w ∧ ∀ k, gets w k = gets (digs T L.reverse i []) k := by
  intro n
  induction n with
  | zero =>
    intro L hL _ i hi
    obtain rfl := List.eq_nil_of_length_eq_zero hL
    have : i = 0 := by simpa using hi
    subst this
    exact ⟨[], rfl, fun _ => rfl⟩
  | succ n ih =>
    intro L hL nd i hi
    obtain ⟨L0, l, rfl⟩ : ∃ L0 l, L = L0 ++ [l] := by
      have hne : L ≠ [] := fun e => by rw [e] at hL; cases hL
      exact ⟨L.dropLast, L.getLast hne, (List.dropLast_concat_getLast hne).symm⟩
    rw [List.length_append] at hL
    have hL0 : L0.length = n := by simpa using hL
    have nd2 := List.nodup_append.mp nd
    have hl : l ∉ L0 := fun h => nd2.2.2 l h l (by simp) rfl
    have hq : i / T.length < T.length ^ n := by
      rw [Nat.div_lt_iff_lt_mul hT]
      rw [Nat.pow_succ] at hi
      exact hi
    have hr : i % T.length < T.length := Nat.mod_lt _ hT
    obtain ⟨w, w1, w2⟩ := ih L0 hL0 nd2.1 (i / T.length) hq
    refine ⟨puts w l (T.getD (i % T.length) default), ?_, fun k => ?_⟩
    · rw [waysP_snoc, flat_get T _ hT, w1]
      show ((T[i % T.length]?).map fun t => puts w l t) = _
      rw [List.getElem?_eq_getElem hr, List.getD_eq_getElem?_getD, List.getElem?_eq_getElem hr]
      rfl
    · rw [List.reverse_append]
      show _ = gets (digs T L0.reverse (i / T.length) (puts [] l (T.getD (i % T.length) default))) k
      by_cases e : k = l
      · subst e
        rw [gets_puts_same, digs_out (by rw [List.mem_reverse]; exact hl), gets_puts_same]
      · rw [gets_puts_ne _ e, w2]
        by_cases e2 : k ∈ L0
        · exact digs_in (by rw [List.mem_reverse]; exact e2)
        · rw [digs_out (by rw [List.mem_reverse]; exact e2), digs_out (by rw [List.mem_reverse]; exact e2), gets_puts_ne _ e]
theorem waysP_map {B : Type} {T L : List Str} (hT : 0 < T.length) (nd : L.Nodup) (F : Gv → B) (hF : ∀ g g', (∀ k, gets g k = gets g' k) → F g = F g') : (waysP L T).map F = (List.range (T.length ^ L.length)).map fun i => F (digs T L.reverse i []) := by
  apply List.ext_getElem?
  intro i
  rw [List.getElem?_map, List.getElem?_map]
  by_cases h : i < T.length ^ L.length
  · obtain ⟨w, w1, w2⟩ := waysP_get hT L.length L rfl nd i h
    rw [w1, List.getElem?_range h]
    exact congrArg some (hF _ _ w2)
  · rw [List.getElem?_eq_none (by rw [waysP_len]; omega), List.getElem?_eq_none (by rw [List.length_range]; omega)]
    rfl
end Vs

/-! Orders of (number, text); what becomes sure, as a least closure. -/
namespace Vs
open PySem PySem.Spec L2
theorem leIS_iff {p q : Int × Str} : leIS p q = true ↔ p.1 < q.1 ∨ (p.1 = q.1 ∧ leS p.2 q.2 = true) := by
  unfold leIS
  rw [Bool.or_eq_true, Bool.and_eq_true, decide_eq_true_iff, decide_eq_true_iff]
theorem leIS_trans (a b c : Int × Str) (h : leIS a b = true) (h' : leIS b c = true) : leIS a c = true := by
  rw [leIS_iff] at *
  rcases h with h | ⟨h, k⟩ <;> rcases h' with h' | ⟨h', k'⟩
  · exact .inl (by omega)
  · exact .inl (by omega)
  · exact .inl (by omega)
  · exact .inr ⟨by omega, leS_trans _ _ _ k k'⟩
theorem leIS_total (a b : Int × Str) : (leIS a b || leIS b a) = true := by
  rw [Bool.or_eq_true, leIS_iff, leIS_iff]
  have t := leS_total a.2 b.2
  rw [Bool.or_eq_true] at t
  rcases Int.lt_trichotomy a.1 b.1 with h | h | h
  · exact .inl (.inl h)
  · rcases t with t | t
    · exact .inl (.inr ⟨h, t⟩)
    · exact .inr (.inr ⟨h.symm, t⟩)
  · exact .inr (.inl h)
theorem leIS_anti {a b : Int × Str} (h : leIS a b = true) (h' : leIS b a = true) : a = b := by
  rw [leIS_iff] at h h'
  rcases h with h | ⟨h, k⟩ <;> rcases h' with h' | ⟨h', k'⟩
  · omega
  · omega
  · omega
  · exact Prod.ext h (leS_anti k k')
theorem sortIS_perm {xs ys : List (Int × Str)} (h : xs.Perm ys) : xs.mergeSort leIS = ys.mergeSort leIS :=
  List.Perm.eq_of_pairwise (fun a b _ _ h h' => leIS_anti h h') (List.pairwise_mergeSort leIS_trans leIS_total xs) (List.pairwise_mergeSort leIS_trans leIS_total ys) ((List.mergeSort_perm xs _).trans (h.trans (List.mergeSort_perm ys _).symm))
/-- the sorted keys, by pairs -/
theorem sortK_eq (ds : List (Str × Int)) : sortK ds = ((ds.map fun z => (z.2, z.1)).mergeSort leIS).map Prod.snd := by
  unfold sortK
  have e : (ds.mergeSort fun p q => leIS (p.2, p.1) (q.2, q.1)).map (fun z : Str × Int => (z.2, z.1)) = (ds.map fun z => (z.2, z.1)).mergeSort leIS := List.map_mergeSort fun a _ b _ => rfl
  rw [← e, List.map_map]
  rfl
theorem sortK_perm {xs ys : List (Str × Int)} (h : xs.Perm ys) : sortK xs = sortK ys := by
  rw [sortK_eq, sortK_eq, sortIS_perm (h.map _)]
theorem mem_sortK {ds : List (Str × Int)} {q : Str} : q ∈ sortK ds ↔ hasK ds q = true := by
  rw [hasK_iff]
  unfold sortK
  rw [((List.mergeSort_perm ds _).map Prod.fst).mem_iff]
theorem sortK_len (ds : List (Str × Int)) : (sortK ds).length = ds.length := by
  unfold sortK
  rw [List.length_map, List.length_mergeSort]
/-- dicts that tell the same hold the same pairs -/
theorem perm_of_gets {κ A : Type} [DecidableEq κ] {xs ys : List (κ × A)} (nx : (xs.map (·.1)).Nodup) (ny : (ys.map (·.1)).Nodup) (h : ∀ k, gets xs k = gets ys k) : xs.Perm ys := by
  have nd : ∀ {zs : List (κ × A)}, (zs.map (·.1)).Nodup → zs.Nodup := fun {zs} n => by
    induction zs with
    | nil => exact List.nodup_nil
    | cons z zs ih =>
      rw [List.map_cons, List.nodup_cons] at n
      rw [List.nodup_cons]
      exact ⟨fun hz => n.1 (List.mem_map.mpr ⟨z, hz, rfl⟩), ih n.2⟩
  have mem : ∀ {zs : List (κ × A)} {z : κ × A}, gets zs z.1 = some z.2 → z ∈ zs := fun {zs z} g => by
    induction zs with
    | nil => cases g
    | cons y zs ih =>
      unfold gets at g
      by_cases e : y.1 = z.1
      · rw [if_pos e] at g
        have e2 : y.2 = z.2 := Option.some.inj g
        rw [show y = z from Prod.ext e e2]; simp
      · rw [if_neg e] at g
        exact List.mem_cons_of_mem _ (ih g)
  refine (List.perm_ext_iff_of_nodup (nd nx) (nd ny)).mpr fun z => ⟨fun hz => mem ?_, fun hz => mem ?_⟩
  · rw [← h]; exact gets_mem_nodup nx hz
  · rw [h]; exact gets_mem_nodup ny hz
/-! ### what becomes sure -/
inductive Der (rs : List Ru) : Str → Prop
  | mk {a : Ru} : a ∈ rs → a.1 = true → (∀ p ∈ a.2.2, Der rs p) → Der rs a.2.1
theorem Der.mono {rs rs' : List Ru} (h : ∀ a ∈ rs, a ∈ rs') {q : Str} (d : Der rs q) : Der rs' q := by
  induction d with
  | mk ha hs _ ih => exact .mk (h _ ha) hs ih
theorem okR_iff {t : Th} {a : Ru} : okR t a = true ↔ a.1 = true ∧ hasK t a.2.1 = false ∧ ∀ p ∈ a.2.2, hasK t p = true := by
  unfold okR
  rw [Bool.and_eq_true, Bool.and_eq_true, List.all_eq_true, Bool.not_eq_true']
theorem hasK_puts {κ A : Type} [DecidableEq κ] (d : List (κ × A)) (k : κ) (a : A) (j : κ) : hasK (puts d k a) j = (decide (j = k) || hasK d j) := by
  unfold hasK
  by_cases e : j = k
  · subst e; rw [gets_puts_same]; simp
  · rw [gets_puts_ne _ e]; simp [e]
theorem putB_has {c : Int} : ∀ (hs : List Str) (s : Th × Rk) (q : Str), hasK (hs.foldl (putB c) s).1 q = (decide (q ∈ hs) || hasK s.1 q) ∧ hasK (hs.foldl (putB c) s).2 q = (decide (q ∈ hs) || hasK s.2 q)
  | [], s, q => by simp
  | h :: hs, s, q => by
    obtain ⟨a, b⟩ := putB_has hs (putB c s h) q
    rw [List.foldl_cons, a, b]
    unfold putB
    dsimp only
    rw [hasK_puts, hasK_puts]
    constructor <;> by_cases e : q = h <;> simp [e, Bool.or_comm]
/-- what is there when nothing more comes: what can be derived -/
theorem sureGo_der {rs : List Ru} : ∀ (n : Nat) (c : Int) {s : Th × Rk}, waits rs s.1 ≤ n → (∀ q, hasK s.1 q = true → Der rs q) → (∀ q, hasK s.2 q = hasK s.1 q) → ∀ q, hasK (sureGo rs n c s).2 q = true ↔ Der rs q := by
  have close : ∀ {s : Th × Rk}, heads rs s.1 = [] → (∀ q, hasK s.1 q = true → Der rs q) → (∀ q, hasK s.2 q = hasK s.1 q) → ∀ q, hasK s.2 q = true ↔ Der rs q := fun {s} e h1 h2 q => by
    rw [h2]
    refine ⟨h1 q, fun d => ?_⟩
    induction d with
    | @mk a ha hs _ ih =>
      cases z : hasK s.1 a.2.1 with
      | true => rfl
      | false =>
        have : okR s.1 a = true := okR_iff.mpr ⟨hs, z, ih⟩
        have hm : a.2.1 ∈ heads rs s.1 := List.mem_map.mpr ⟨a, List.mem_filter.mpr ⟨ha, this⟩, rfl⟩
        rw [e] at hm; cases hm
  intro n
  induction n with
  | zero => intro c s hw h1 h2; exact close (s := s) (heads_nil_of (by omega)) h1 h2
  | succ n ih =>
    intro c s hw h1 h2
    unfold sureGo
    cases e : heads rs s.1 == [] with
    | true =>
      have e' : heads rs s.1 = [] := by simpa using e
      exact close e' h1 h2
    | false =>
      have hne : heads rs s.1 ≠ [] := fun z => by rw [z] at e; cases e
      have lt := waits_lt (c := c) hne
      refine ih (c + 1) (by omega) (fun q hq => ?_) fun q => ?_
      · rw [(putB_has _ s q).1, Bool.or_eq_true] at hq
        rcases hq with hq | hq
        · have hq := of_decide_eq_true hq
          obtain ⟨a, ha, rfl⟩ := List.mem_map.mp hq
          obtain ⟨ha, ho⟩ := List.mem_filter.mp ha
          obtain ⟨o1, _, o3⟩ := okR_iff.mp ho
          exact .mk ha o1 fun p hp => h1 p (o3 p hp)
        · exact h1 q hq
      · rw [(putB_has _ s q).1, (putB_has _ s q).2, h2]
end Vs

/-! Sure sets. -/
namespace Vs
open PySem PySem.Spec L2
def rstL (acc : List Str) (a : Ru) : Bool := a.2.2.all fun p => decide (p ∈ acc)
/-- each one has a sure rule whose premises stand ahead -/
def suppL (rs : List Ru) : List Str → List Str → Bool
  | _, [] => true
  | acc, q :: l => (rs.any fun a => a.1 && (decide (a.2.1 = q) && rstL acc a)) && suppL rs (acc ++ [q]) l
theorem rstL_iff {acc : List Str} {a : Ru} : rstL acc a = true ↔ ∀ p ∈ a.2.2, p ∈ acc := by
  unfold rstL
  rw [List.all_eq_true]
  exact ⟨fun h p hp => of_decide_eq_true (h p hp), fun h p hp => decide_eq_true (h p hp)⟩
theorem supp_der {rs : List Ru} : ∀ (l acc : List Str), (∀ q ∈ acc, Der rs q) → suppL rs acc l = true → ∀ q ∈ acc ++ l, Der rs q
  | [], acc, h, _, q, hq => h q (by simpa using hq)
  | x :: l, acc, h, hs, q, hq => by
    unfold suppL at hs
    rw [Bool.and_eq_true, List.any_eq_true] at hs
    obtain ⟨⟨a, ha, h1⟩, h2⟩ := hs
    rw [Bool.and_eq_true, Bool.and_eq_true] at h1
    have e := of_decide_eq_true h1.2.1
    have dx : Der rs x := e ▸ Der.mk ha h1.1 fun p hp => h p (rstL_iff.mp h1.2.2 p hp)
    refine supp_der l (acc ++ [x]) (fun y hy => ?_) h2 q (by rw [List.append_assoc]; exact hq)
    rcases List.mem_append.mp hy with z | z
    · exact h y z
    · rw [List.mem_singleton.mp z]; exact dx
/-- nothing more comes: all that can be derived is there -/
theorem closed_iff {rs : List Ru} {t : Th} {l : List Str} (ht : ∀ q, hasK t q = decide (q ∈ l)) (hd : ∀ q ∈ l, Der rs q) : heads rs t = [] ↔ ∀ q, Der rs q → q ∈ l := by
  constructor
  · intro e q d
    induction d with
    | @mk a ha hs _ ih =>
      by_cases z : a.2.1 ∈ l
      · exact z
      · have : okR t a = true := okR_iff.mpr ⟨hs, by rw [ht]; exact decide_eq_false z, fun p hp => by rw [ht]; exact decide_eq_true (ih p hp)⟩
        have hm : a.2.1 ∈ heads rs t := List.mem_map.mpr ⟨a, List.mem_filter.mpr ⟨ha, this⟩, rfl⟩
        rw [e] at hm; cases hm
  · intro h
    cases e : heads rs t with
    | nil => rfl
    | cons x r =>
      have hx : x ∈ heads rs t := by rw [e]; simp
      obtain ⟨a, ha, rfl⟩ := List.mem_map.mp hx
      obtain ⟨ha, ho⟩ := List.mem_filter.mp ha
      obtain ⟨o1, o2, o3⟩ := okR_iff.mp ho
      have d : Der rs a.2.1 := .mk ha o1 fun p hp => hd p (by have := o3 p hp; rw [ht] at this; exact of_decide_eq_true this)
      have := h _ d
      rw [ht, decide_eq_true this] at o2; cases o2
/-- a list that holds just what can be derived, each once, each behind its premises -/
def SureSet (rs : List Ru) (l : List Str) : Prop := l.Nodup ∧ suppL rs [] l = true ∧ ∀ q, Der rs q → q ∈ l
theorem sortT_iff {xs ys : List Str} : sortT xs = sortT ys ↔ xs.Perm ys := by
  constructor
  · intro e
    exact (sortT_perm xs).symm.trans (e ▸ sortT_perm ys)
  · intro h
    exact sortT_uniq ((sortT_perm xs).trans h) (sortT_pair xs)
theorem sorted_sure {rs : List Ru} {K l : List Str} (nk : K.Nodup) (hk : ∀ q, q ∈ K ↔ Der rs q) (hs : suppL rs [] l = true) : sortT l = sortT K ↔ SureSet rs l := by
  have hd : ∀ q ∈ l, Der rs q := fun q hq => supp_der l [] (fun q h => nomatch h) hs q hq
  rw [sortT_iff]
  constructor
  · intro p
    exact ⟨p.nodup_iff.mpr nk, hs, fun q d => p.mem_iff.mpr ((hk q).mpr d)⟩
  · rintro ⟨n, _, h⟩
    exact (List.perm_ext_iff_of_nodup n nk).mpr fun q => ⟨fun hq => (hk q).mpr (hd q hq), fun hq => h q ((hk q).mp hq)⟩
/-- dicts filled by a list -/
theorem has_fold (l : List Str) : ∀ (t : Th) (q : Str), hasK (l.foldl putT t) q = (decide (q ∈ l) || hasK t q) := by
  induction l with
  | nil => intro t q; simp
  | cons x l ih =>
    intro t q
    rw [List.foldl_cons, ih]
    unfold putT
    rw [hasK_puts]
    by_cases e : q = x <;> simp [e, Bool.or_comm]
/-- the program's walk -/
theorem sure_walk {rs : List Ru} {A T : Type} {step : Th → Str → Step Th Bool} {k : Th → Bool}
    (hstep : ∀ t q, step t q = cond (hasK t q) (.fin false) (cond (!(rs.any fun a => a.1 && (decide (a.2.1 = q) && a.2.2.all fun p => hasK t p))) (.fin false) (.nx (putT t q))))
    (hk : ∀ t, k t = (heads rs t == [])) : ∀ (l acc : List Str) (t : Th), (∀ q, hasK t q = decide (q ∈ acc)) → acc.Nodup → (∀ q ∈ acc, Der rs q) →
      (loop step (fun y => y) k l t = true ↔ (acc ++ l).Nodup ∧ suppL rs acc l = true ∧ ∀ q, Der rs q → q ∈ acc ++ l) := by
  intro l
  induction l with
  | nil =>
    intro acc t ht hn hd
    have e : loop step (fun y => y) k [] t = (heads rs t == []) := hk t
    rw [e, List.append_nil]
    have c := closed_iff ht hd
    constructor
    · intro h
      exact ⟨hn, rfl, c.mp (by simpa using h)⟩
    · rintro ⟨_, _, h⟩
      rw [c.mpr h]; rfl
  | cons x l ih =>
    intro acc t ht hn hd
    have er : (fun a : Ru => a.1 && (decide (a.2.1 = x) && a.2.2.all fun p => hasK t p)) = fun a => a.1 && (decide (a.2.1 = x) && rstL acc a) := by
      funext a
      unfold rstL
      have : (fun p => hasK t p) = fun p => decide (p ∈ acc) := funext ht
      rw [this]
    have e : loop step (fun y => y) k (x :: l) t = cond (hasK t x) false (cond (!(rs.any fun a => a.1 && (decide (a.2.1 = x) && rstL acc a))) false (loop step (fun y => y) k l (putT t x))) := by
      conv => lhs; unfold loop
      rw [hstep, er]
      cases hasK t x
      · cases rs.any (fun a => a.1 && (decide (a.2.1 = x) && rstL acc a)) <;> rfl
      · rfl
    rw [e, ht]
    by_cases hx : x ∈ acc
    · rw [decide_eq_true hx]
      constructor
      · intro h; cases h
      · rintro ⟨h, _, _⟩
        rw [List.nodup_append] at h
        exact absurd rfl (h.2.2 x hx x (by simp))
    · rw [decide_eq_false hx]
      cases ha : rs.any fun a => a.1 && (decide (a.2.1 = x) && rstL acc a) with
      | false =>
        constructor
        · intro h; cases h
        · rintro ⟨_, h, _⟩
          unfold suppL at h
          rw [ha] at h; cases h
      | true =>
        have dx : Der rs x := by
          obtain ⟨a, h0, h1⟩ := List.any_eq_true.mp ha
          rw [Bool.and_eq_true, Bool.and_eq_true] at h1
          have e := of_decide_eq_true h1.2.1
          exact e ▸ Der.mk h0 h1.1 fun p hp => hd p (rstL_iff.mp h1.2.2 p hp)
        have := ih (acc ++ [x]) (putT t x) (fun q => by
          unfold putT
          rw [hasK_puts, ht]
          by_cases e : q = x <;> simp [e]) (by
          rw [List.nodup_append]
          refine ⟨hn, by simp, fun a ha b hb e => ?_⟩
          rw [List.mem_singleton.mp hb] at e
          exact hx (e ▸ ha)) (fun q hq => by
          rcases List.mem_append.mp hq with z | z
          · exact hd q z
          · rw [List.mem_singleton.mp z]; exact dx)
        show loop step (fun y => y) k l (putT t x) = true ↔ _
        rw [this, List.append_assoc]
        conv => rhs; unfold suppL
        rw [ha, Bool.true_and]
        rfl
end Vs

set_option maxHeartbeats 4000000
namespace Lw
open PySem PySem.Spec L2 Vs
def top (i : Nat) : Stmt := PySem.Challenge.pw_mostwise_k33_whole_sure_sets.main.body.getD i (.Pass ⟨0, 0, 0, 0⟩)
def sub (s : Stmt) (j : Nat) : Stmt := match s with
  | .ClassDef _ _ _ body _ _ _ _ _ _ _ => body.getD j (.Pass ⟨0, 0, 0, 0⟩)
  | _ => .Pass ⟨0, 0, 0, 0⟩
abbrev e0_vtup (z : (List Str)) : Dt := Dt.tup (List.map Dt.str z)
abbrev e1_tup (z : (Str × Str × Str × (List Str))) : Dt := Dt.tup [(Dt.str z.1), (Dt.str z.2.1), (Dt.str z.2.2.1), (e0_vtup z.2.2.2)]
abbrev e2_list (z : (List Str)) : Dt := Dt.lst (List.map Dt.str z)
abbrev e3_scr (z : (List Int)) : Dt := Dt.scr (List.map Dt.int z)
abbrev e4_list (z : (List Int)) : Dt := Dt.lst (List.map Dt.int z)
abbrev e5_list (z : (List (Str × Str × Str × (List Str)))) : Dt := Dt.lst (List.map e1_tup z)
def cn_Rule : Nat → Str := fun k => match k with
  | 0 => "Fact"
  | 1 => "Sure"
  | 2 => "Most"
  | _ => "Block"
abbrev enc_Rule (z : (Nat × Str × Str × (List Str))) : Dt := Dt.ins (cn_Rule z.1) [("label", (Dt.str z.2.1)), ("head", (Dt.str z.2.2.1)), ("body", (e0_vtup z.2.2.2))]
abbrev e6_dict (z : (List (Str × Int))) : Dt := Dt.dic (encK Sum.inr Dt.int z)
abbrev e7_list (z : (List (Nat × Str × Str × (List Str)))) : Dt := Dt.lst (List.map enc_Rule z)
abbrev e8_tup (z : (Str × Str)) : Dt := Dt.tup [(Dt.str z.1), (Dt.str z.2)]
abbrev e9_list (z : (List (Str × Str))) : Dt := Dt.lst (List.map e8_tup z)
abbrev e10_tdict (z : (List ((Str × Str) × Bool))) : Dt := Dt.dit (encT kSS Dt.bl z)
abbrev e11_dict (z : (List (Str × (List (Nat × Str × Str × (List Str)))))) : Dt := Dt.dic (encK Sum.inr e7_list z)
abbrev e12_tup (z : (Int × Str)) : Dt := Dt.tup [(Dt.int z.1), (Dt.str z.2)]
def cn_Ground : Nat → Str := fun k => match k with
  | _ => "Ground"
abbrev enc_Ground (z : (Nat × (List (Nat × Str × Str × (List Str))) × (List (Str × Str)) × (List ((Str × Str) × Bool)) × (List (Str × (List (Nat × Str × Str × (List Str))))))) : Dt := Dt.ins (cn_Ground z.1) [("every", (e7_list z.2.1)), ("told", (e9_list z.2.2.1)), ("wins", (e10_tdict z.2.2.2.1)), ("heads", (e11_dict z.2.2.2.2))]
abbrev e13_dict (z : (List (Str × Bool))) : Dt := Dt.dic (encK Sum.inr Dt.bl z)
theorem lk_Rule_label (z : (Nat × Str × Str × (List Str))) : List.lookup ("label" : Str) ([("label", (Dt.str z.2.1)), ("head", (Dt.str z.2.2.1)), ("body", (e0_vtup z.2.2.2))] : List (Str × Dt)) = some (Dt.str z.2.1) := by rfl
theorem lk_Rule_head (z : (Nat × Str × Str × (List Str))) : List.lookup ("head" : Str) ([("label", (Dt.str z.2.1)), ("head", (Dt.str z.2.2.1)), ("body", (e0_vtup z.2.2.2))] : List (Str × Dt)) = some (Dt.str z.2.2.1) := by rfl
theorem lk_Rule_body (z : (Nat × Str × Str × (List Str))) : List.lookup ("body" : Str) ([("label", (Dt.str z.2.1)), ("head", (Dt.str z.2.2.1)), ("body", (e0_vtup z.2.2.2))] : List (Str × Dt)) = some (e0_vtup z.2.2.2) := by rfl
theorem nol_Rule (z : (Nat × Str × Str × (List Str))) : noL (enc_Rule z) = true := by
  show (noL (Dt.str z.2.1) && (noL (Dt.str z.2.2.1) && (noL (e0_vtup z.2.2.2) && true))) = true
  rw [show noL (Dt.str z.2.1) = true from nol_str _, show noL (Dt.str z.2.2.1) = true from nol_str _, show noL (e0_vtup z.2.2.2) = true from (nol_vtup nol_str) _]; rfl
theorem lk_Ground_every (z : (Nat × (List (Nat × Str × Str × (List Str))) × (List (Str × Str)) × (List ((Str × Str) × Bool)) × (List (Str × (List (Nat × Str × Str × (List Str))))))) : List.lookup ("every" : Str) ([("every", (e7_list z.2.1)), ("told", (e9_list z.2.2.1)), ("wins", (e10_tdict z.2.2.2.1)), ("heads", (e11_dict z.2.2.2.2))] : List (Str × Dt)) = some (e7_list z.2.1) := by rfl
theorem lk_Ground_told (z : (Nat × (List (Nat × Str × Str × (List Str))) × (List (Str × Str)) × (List ((Str × Str) × Bool)) × (List (Str × (List (Nat × Str × Str × (List Str))))))) : List.lookup ("told" : Str) ([("every", (e7_list z.2.1)), ("told", (e9_list z.2.2.1)), ("wins", (e10_tdict z.2.2.2.1)), ("heads", (e11_dict z.2.2.2.2))] : List (Str × Dt)) = some (e9_list z.2.2.1) := by rfl
theorem lk_Ground_wins (z : (Nat × (List (Nat × Str × Str × (List Str))) × (List (Str × Str)) × (List ((Str × Str) × Bool)) × (List (Str × (List (Nat × Str × Str × (List Str))))))) : List.lookup ("wins" : Str) ([("every", (e7_list z.2.1)), ("told", (e9_list z.2.2.1)), ("wins", (e10_tdict z.2.2.2.1)), ("heads", (e11_dict z.2.2.2.2))] : List (Str × Dt)) = some (e10_tdict z.2.2.2.1) := by rfl
theorem lk_Ground_heads (z : (Nat × (List (Nat × Str × Str × (List Str))) × (List (Str × Str)) × (List ((Str × Str) × Bool)) × (List (Str × (List (Nat × Str × Str × (List Str))))))) : List.lookup ("heads" : Str) ([("every", (e7_list z.2.1)), ("told", (e9_list z.2.2.1)), ("wins", (e10_tdict z.2.2.2.1)), ("heads", (e11_dict z.2.2.2.2))] : List (Str × Dt)) = some (e11_dict z.2.2.2.2) := by rfl
structure Txt (K : PySem.W.Frag) (mg : Str → Option Value) : Prop where
  n_any : mg "any" = none
  n_bool : mg "bool" = none
  n_enumerate : mg "enumerate" = none
  n_isinstance : mg "isinstance" = none
  n_len : mg "len" = none
  n_list : mg "list" = none
  n_range : mg "range" = none
  n_reversed : mg "reversed" = none
  n_sorted : mg "sorted" = none
  n_tuple : mg "tuple" = none
  cl_Ground : ∀ k, ClF K (cn_Ground k)
  cl_Rule : ∀ k, ClF K (cn_Rule k)
  gc_Block : mg "Block" = some (.ref (He.ga K "Block"))
  gc_Fact : mg "Fact" = some (.ref (He.ga K "Fact"))
  gc_Ground : mg "Ground" = some (.ref (He.ga K "Ground"))
  gc_Most : mg "Most" = some (.ref (He.ga K "Most"))
  gc_Rule : mg "Rule" = some (.ref (He.ga K "Rule"))
  gc_Sure : mg "Sure" = some (.ref (He.ga K "Sure"))
  mk_Block : Mk K (He.ga K "Block") (He.ma K (He.ga K "Block") "__init__")
  mk_Fact : Mk K (He.ga K "Fact") (He.ma K (He.ga K "Fact") "__init__")
  mk_Ground : Mk K (He.ga K "Ground") (He.ma K (He.ga K "Ground") "__init__")
  mk_Most : Mk K (He.ga K "Most") (He.ma K (He.ga K "Most") "__init__")
  mk_Sure : Mk K (He.ga K "Sure") (He.ma K (He.ga K "Sure") "__init__")
  na_Ground_every : ∀ k, NoAttr K (He.ga K (cn_Ground k)) "every"
  na_Ground_heads : ∀ k, NoAttr K (He.ga K (cn_Ground k)) "heads"
  na_Ground_told : ∀ k, NoAttr K (He.ga K (cn_Ground k)) "told"
  na_Ground_wins : ∀ k, NoAttr K (He.ga K (cn_Ground k)) "wins"
  na_Rule_body : ∀ k, NoAttr K (He.ga K (cn_Rule k)) "body"
  na_Rule_head : ∀ k, NoAttr K (He.ga K (cn_Rule k)) "head"
  na_Rule_label : ∀ k, NoAttr K (He.ga K (cn_Rule k)) "label"
  su_Rule : SupF K "Rule" "__init__"
/-! law_cell_at -/
def m_law_cell_at (v_script : (List Int)) (v_k : Int) : Int := (cond (decide (v_k < ((v_script).length : Int))) (itm v_script v_k) (0 : Int))
def k_law_cell_at (v_script : (List Int)) (v_k : Int) : Prop := ((decide (v_k < ((v_script).length : Int))) = true → (inI v_script v_k = true))
abbrev s_law_cell_at : Stmt := top 16
theorem sc_law_cell_at : FnScope ["_law_script", "_law_k"] ["_law_script", "_law_k"] (defScope s_law_cell_at) := ⟨rfl, rfl, rfl, by decide +kernel, rfl, by decide +kernel, by decide +kernel⟩
def r_law_cell_at : List Dt → Sum Cell Xc → Prop := fun ds a => ∃ (v_script : (List Int)) (v_k : Int), k_law_cell_at v_script v_k ∧ ds = [(e3_scr v_script), (Dt.int v_k)] ∧ a = .inl (.fz (Dt.int (m_law_cell_at v_script v_k)))
section
variable {P : Program} {w : World} {K : PySem.W.Frag} {mg : Str → Option Value} {base : Heap}
theorem run_law_cell_at (T : Txt K mg)  {f : Addr} {cdv : Value} {A : Around} {outer : List PySem.Env} {s : Shared} {H : Hp} {E : XK} (hr : Room 0 (A.deeper (PyProof.Rows.envOfC "_law_cell_at" (defScope s_law_cell_at) s.heap.objs.size f cdv))) (v_script : (List Int)) (v_k : Int) (hk : k_law_cell_at v_script v_k) :
    Run (cxOf (L2.CX P w) P w K mg base ["_law_script", "_law_k"] "_law_cell_at" (defScope s_law_cell_at) f cdv A outer s H E) K (wE E) sv0 (defBody s_law_cell_at) (start0 ["_law_script", "_law_k"] [(e3_scr v_script), (Dt.int v_k)]) (.rt (.fz (Dt.int (m_law_cell_at v_script v_k))) none) := by
  have h2 := hk
  refine run_gd (fun x : Int => .rt (.fz (Dt.int x)) none) (itm v_script v_k) (0 : Int) (fun _ h => nomatch h) (eb_cmp says_lt (xv 1 rfl) (x_len Dt.int (fun _ => rfl) (EX.esS (xv 0 rfl)) (fun _ => rfl) (fun _ => T.n_len))) (fun hb => ?_) (fun hb => ?_)
  · have hk := h2 hb
    have h1 := hk
    exact run_ret (x_ix Dt.int (fun _ => rfl) (EX.esS (xv 0 rfl)) (xv 1 rfl) h1)
  · exact run_ret ex_int
theorem ok_law_cell_at (T : Txt K mg)  {f : Addr} {fd : FuncData} (F : FunD K "_law_cell_at" "_law_cell_at" (defArgs s_law_cell_at) (defBody s_law_cell_at) (defScope s_law_cell_at) [] [] f fd) : FnOk P w K mg base (L2.CX P w) 1 f fd ["_law_script", "_law_k"] (spR K 2 r_law_cell_at) :=
  fnOk_mk F sc_law_cell_at (fun cdv A outer s H E ds a hr hR hn => by
    obtain ⟨v_script, v_k, hk, rfl, rfl⟩ := hR
    exact ⟨_, .rt _, run_law_cell_at T  hr v_script v_k hk⟩)
theorem mk_law_cell_at (T : Txt K mg)  {f : Addr} {fd : FuncData} (F : FunD K "_law_cell_at" "_law_cell_at" (defArgs s_law_cell_at) (defBody s_law_cell_at) (defScope s_law_cell_at) [] [] f fd) {x : Str} (gf : mg x = some (.ref f)) : Callee P w K mg base x 1 2 r_law_cell_at :=
  ⟨f, fd, ["_law_script", "_law_k"], ok_law_cell_at T  F, gf, F.kp, FunD.bindsN F fun _ _ _ _ _ _ us hl => match us, hl with | [_, _], _ => rfl⟩
end
/-! law_word -/
def m_law_word_2  (v_step_1 : Int) : (Int) := v_step_1
def m_law_word_3  (v_word_here : Str) : (Step (Str) Str) := (.nx v_word_here)
def m_law_word_4 (v_signs : Str) (v_st : (Str)) (v_st_1 : (Int)) : (Step (Str) Str) := (m_law_word_3 (v_st ++ (sgn v_signs (v_st_1 % (v_signs.length : Int)))))
def k_law_word_4 (v_signs : Str) (v_st : (Str)) (v_st_1 : (Int)) : Prop := (((0 : Int) < (v_signs.length : Int)) ∧ ((atI (v_signs).cps.toList (v_st_1 % (v_signs.length : Int))).isSome = true) ∧ ((v_st).length + ((sgn v_signs (v_st_1 % (v_signs.length : Int)))).length ≤ bigS))
def m_law_word_5 (v_k : Int) (v_signs : Str) (v_at : Int) (v_st : (Str)) (v_it : Nat) (v_step : Int) : (Step (Str) Str) := (m_law_word_4 v_signs v_st (cond ((v_it : Int) == v_at) (m_law_word_2 (v_step + v_k)) v_step))
def k_law_word_5 (v_k : Int) (v_signs : Str) (v_at : Int) (v_st : (Str)) (v_it : Nat) (v_step : Int) : Prop := (k_law_word_4 v_signs v_st (cond ((v_it : Int) == v_at) (m_law_word_2 (v_step + v_k)) v_step))
def m_law_word_6 (v_cell : Int) (v_k : Int) (v_signs : Str) (v_at : Int) (v_st : (Str)) (v_it : Nat) : Step (Str) Str := (m_law_word_5 v_k v_signs v_at v_st v_it ((v_cell / (64 : Int)) + ((5 : Int) * (v_it : Int))))
def k_law_word_6 (v_cell : Int) (v_k : Int) (v_signs : Str) (v_at : Int) (v_st : (Str)) (v_it : Nat) : Prop := (k_law_word_5 v_k v_signs v_at v_st v_it ((v_cell / (64 : Int)) + ((5 : Int) * (v_it : Int))))
def m_law_word_7  (v_st : (Str)) : Str := v_st
def m_law_word_8 (v_cell : Int) (v_k : Int) (v_signs : Str) (v_size : Int) (v_at : Int) : Str := (loop (m_law_word_6 v_cell v_k v_signs v_at) (fun y => y) (m_law_word_7) (List.range (Int.toNat v_size)) (Str.ofString ""))
def k_law_word_8 (v_cell : Int) (v_k : Int) (v_signs : Str) (v_size : Int) (v_at : Int) : Prop := ((rngOk v_size) ∧ (LoopAll (k_law_word_6 v_cell v_k v_signs v_at) (fun _ => True) (m_law_word_6 v_cell v_k v_signs v_at) (List.range (Int.toNat v_size)) (Str.ofString "")))
def m_law_word_9 (v_cell : Int) (v_k : Int) (v_signs : Str) (v_size : Int) : Str := (m_law_word_8 v_cell v_k v_signs v_size ((v_cell / (8 : Int)) % v_size))
def k_law_word_9 (v_cell : Int) (v_k : Int) (v_signs : Str) (v_size : Int) : Prop := (((0 : Int) < v_size) ∧ (k_law_word_8 v_cell v_k v_signs v_size ((v_cell / (8 : Int)) % v_size)))
def m_law_word (v_cell : Int) (v_k : Int) (v_signs : Str) : Str := (m_law_word_9 v_cell v_k v_signs ((1 : Int) + (v_cell % (8 : Int))))
def k_law_word (v_cell : Int) (v_k : Int) (v_signs : Str) : Prop := (k_law_word_9 v_cell v_k v_signs ((1 : Int) + (v_cell % (8 : Int))))
abbrev s_law_word : Stmt := top 18
theorem sc_law_word : FnScope ["_law_cell", "_law_k", "_law_signs", "_law_size", "_law_at", "_law_word_here", "_law_j", "_law_step"] ["_law_cell", "_law_k", "_law_signs"] (defScope s_law_word) := ⟨rfl, rfl, rfl, by decide +kernel, rfl, by decide +kernel, by decide +kernel⟩
def r_law_word : List Dt → Sum Cell Xc → Prop := fun ds a => ∃ (v_cell : Int) (v_k : Int) (v_signs : Str), k_law_word v_cell v_k v_signs ∧ ds = [(Dt.int v_cell), (Dt.int v_k), (Dt.str v_signs)] ∧ a = .inl (.fz (Dt.str (m_law_word v_cell v_k v_signs)))
section
variable {P : Program} {w : World} {K : PySem.W.Frag} {mg : Str → Option Value} {base : Heap}
theorem run_law_word (T : Txt K mg)  {f : Addr} {cdv : Value} {A : Around} {outer : List PySem.Env} {s : Shared} {H : Hp} {E : XK} (hr : Room 0 (A.deeper (PyProof.Rows.envOfC "_law_word" (defScope s_law_word) s.heap.objs.size f cdv))) (v_cell : Int) (v_k : Int) (v_signs : Str) (hk : k_law_word v_cell v_k v_signs) :
    Run (cxOf (L2.CX P w) P w K mg base ["_law_cell", "_law_k", "_law_signs", "_law_size", "_law_at", "_law_word_here", "_law_j", "_law_step"] "_law_word" (defScope s_law_word) f cdv A outer s H E) K (wE E) sv0 (defBody s_law_word) (start0 ["_law_cell", "_law_k", "_law_signs", "_law_size", "_law_at", "_law_word_here", "_law_j", "_law_step"] [(Dt.int v_cell), (Dt.int v_k), (Dt.str v_signs)]) (.rt (.fz (Dt.str (m_law_word v_cell v_k v_signs))) none) := by
  have h11 := hk
  refine run_asgE (i := 3) ((1 : Int) + (v_cell % (8 : Int))) (fun v_size => .fz (Dt.int v_size)) (fun _ => _) (fun v_size => [Zf (Dt.int v_cell), Zf (Dt.int v_k), Zf (Dt.str v_signs), Zf (Dt.int v_size), none, none, none, none]) (fun v_size => .rt (.fz (Dt.str (m_law_word_9 v_cell v_k v_signs v_size))) none) (k_law_word_9 v_cell v_k v_signs) (EX.ev (ex_add ex_int (ex_mod (xv 0 rfl) ex_int (by decide)))) h11 sc_law_word.nd (fun _ => rfl) (fun v_size hk => ?_)
  obtain ⟨h9, h10⟩ := hk
  refine run_asgE (i := 4) ((v_cell / (8 : Int)) % v_size) (fun v_at => .fz (Dt.int v_at)) (fun _ => _) (fun v_at => [Zf (Dt.int v_cell), Zf (Dt.int v_k), Zf (Dt.str v_signs), Zf (Dt.int v_size), Zf (Dt.int v_at), none, none, none]) (fun v_at => .rt (.fz (Dt.str (m_law_word_8 v_cell v_k v_signs v_size v_at))) none) (k_law_word_8 v_cell v_k v_signs v_size) (EX.ev (ex_mod (ex_fdiv (xv 0 rfl) ex_int ⟨by decide, by decide⟩) (xv 3 rfl) h9)) h10 sc_law_word.nd (fun _ => rfl) (fun v_at hk => ?_)
  have h8 := hk
  refine run_asgQ (i := 5) (Gk := [Zf (Dt.int v_cell), Zf (Dt.int v_k), Zf (Dt.str v_signs), Zf (Dt.int v_size), Zf (Dt.int v_at), Zf (Dt.str (Str.ofString "")), none, none]) (EX.ev (ex_str (h := by decide +kernel))) sc_law_word.nd rfl ?_
  have hk := h8
  obtain ⟨h6, h7⟩ := hk
  refine run_forQ (js := [6]) (P := (k_law_word_6 v_cell v_k v_signs v_at)) (Q := (fun _ => True)) (s0 := (Str.ofString "")) (fun i : Nat => Dt.int (i : Int)) (fun v_st : (Str) => [Zf (Dt.int v_cell), Zf (Dt.int v_k), Zf (Dt.str v_signs), Zf (Dt.int v_size), Zf (Dt.int v_at), Zf (Dt.str v_st), none, none]) (fun (v_st : (Str)) (v_it : Nat) => [Zf (Dt.int v_cell), Zf (Dt.int v_k), Zf (Dt.str v_signs), Zf (Dt.int v_size), Zf (Dt.int v_at), Zf (Dt.str v_st), Zf (Dt.int (v_it : Int)), none]) (fun x : Str => .rt (.fz (Dt.str x)) none) (m_law_word_6 v_cell v_k v_signs v_at) (fun y => y) (m_law_word_7) (passes_of rfl) rfl (pg_name (i := 6) sc_law_word.nd rfl (by first | exact Or.inl rfl | exact Or.inr rfl)) rfl (fun _ => trivial) (src_range1 (fun _ => rfl) (fun _ => T.n_range) (xv 3 rfl) h6.1 h6.2) (.keep (.keep (.keep (.keep (.keep (.keep (.keep (.keep .nil)))))))) (fun _ _ => (bd_name (Nat.blt_eq.mp rfl))) h7 (fun v_st v_it hm hk => ?_) (fun v_st _ => ?_)
  · have h5 := hk
    refine run_asgE (i := 7) ((v_cell / (64 : Int)) + ((5 : Int) * (v_it : Int))) (fun v_step => .fz (Dt.int v_step)) (fun _ => _) (fun v_step => [Zf (Dt.int v_cell), Zf (Dt.int v_k), Zf (Dt.str v_signs), Zf (Dt.int v_size), Zf (Dt.int v_at), Zf (Dt.str v_st), Zf (Dt.int (v_it : Int)), Zf (Dt.int v_step)]) (fun v_step => (Step.out (fun v_st : (Str) => [Zf (Dt.int v_cell), Zf (Dt.int v_k), Zf (Dt.str v_signs), Zf (Dt.int v_size), Zf (Dt.int v_at), Zf (Dt.str v_st), none, none]) (fun x : Str => .rt (.fz (Dt.str x)) none) (m_law_word_5 v_k v_signs v_at v_st v_it v_step))) (k_law_word_5 v_k v_signs v_at v_st v_it) (EX.ev (ex_add (ex_fdiv (xv 0 rfl) ex_int ⟨by decide, by decide⟩) (ex_mul ex_int (xv 6 rfl) (.inl ⟨by decide, by decide⟩)))) h5 sc_law_word.nd (fun _ => rfl) (fun v_step hk => ?_)
    have h4 := hk
    refine run_ifP (s1 := (m_law_word_2 (v_step + v_k))) (s2 := v_step) (fun v_st_1 : (Int) => [Zf (Dt.int v_cell), Zf (Dt.int v_k), Zf (Dt.str v_signs), Zf (Dt.int v_size), Zf (Dt.int v_at), Zf (Dt.str v_st), Zf (Dt.int (v_it : Int)), Zf (Dt.int v_st_1)]) (fun v_st_1 => (Step.out (fun v_st : (Str) => [Zf (Dt.int v_cell), Zf (Dt.int v_k), Zf (Dt.str v_signs), Zf (Dt.int v_size), Zf (Dt.int v_at), Zf (Dt.str v_st), none, none]) (fun x : Str => .rt (.fz (Dt.str x)) none) (m_law_word_4 v_signs v_st v_st_1))) (k_law_word_4 v_signs v_st) (eb_cmp says_eqI (xv 6 rfl) (xv 4 rfl)) h4 (fun hb => ?_) (fun hb => ?_) (fun v_st_1 hk => ?_)
    · refine run_asgE (i := 7) (v_step + v_k) (fun v_step_1 => .fz (Dt.int v_step_1)) (fun _ => _) (fun v_step_1 => [Zf (Dt.int v_cell), Zf (Dt.int v_k), Zf (Dt.str v_signs), Zf (Dt.int v_size), Zf (Dt.int v_at), Zf (Dt.str v_st), Zf (Dt.int (v_it : Int)), Zf (Dt.int v_step_1)]) (fun v_step_1 => .nx ((fun v_st_1 : (Int) => [Zf (Dt.int v_cell), Zf (Dt.int v_k), Zf (Dt.str v_signs), Zf (Dt.int v_size), Zf (Dt.int v_at), Zf (Dt.str v_st), Zf (Dt.int (v_it : Int)), Zf (Dt.int v_st_1)]) (m_law_word_2 v_step_1))) (fun _ => True) (EX.ev (ex_add (xv 7 rfl) (xv 1 rfl))) trivial sc_law_word.nd (fun _ => rfl) (fun v_step_1 _ => ?_)
      exact run_end (.keep (.keep (.keep (.keep (.keep (.keep (.keep (.keep .nil))))))))
    · exact run_end (.keep (.keep (.keep (.keep (.keep (.keep (.keep (.keep .nil))))))))
    · obtain ⟨h1, h2, h3⟩ := hk
      refine run_asgE (i := 5) (v_st ++ (sgn v_signs (v_st_1 % (v_signs.length : Int)))) (fun v_word_here => .fz (Dt.str v_word_here)) (fun _ => _) (fun v_word_here => [Zf (Dt.int v_cell), Zf (Dt.int v_k), Zf (Dt.str v_signs), Zf (Dt.int v_size), Zf (Dt.int v_at), Zf (Dt.str v_word_here), Zf (Dt.int (v_it : Int)), Zf (Dt.int v_st_1)]) (fun v_word_here => (Step.out (fun v_st : (Str) => [Zf (Dt.int v_cell), Zf (Dt.int v_k), Zf (Dt.str v_signs), Zf (Dt.int v_size), Zf (Dt.int v_at), Zf (Dt.str v_st), none, none]) (fun x : Str => .rt (.fz (Dt.str x)) none) (m_law_word_3 v_word_here))) (fun _ => True) (EX.ev (ex_cat (xv 5 rfl) (x_ixS (xv 2 rfl) (ex_mod (xv 7 rfl) (ex_lenS (xv 2 rfl) (fun _ => rfl) (fun _ => T.n_len)) h1) h2) h3)) trivial sc_law_word.nd (fun _ => rfl) (fun v_word_here _ => ?_)
      exact run_end (.keep (.keep (.keep (.keep (.keep (.keep (.drop (.drop .nil))))))))
  · exact run_ret (xv 5 rfl)
theorem ok_law_word (T : Txt K mg)  {f : Addr} {fd : FuncData} (F : FunD K "_law_word" "_law_word" (defArgs s_law_word) (defBody s_law_word) (defScope s_law_word) [] [] f fd) : FnOk P w K mg base (L2.CX P w) 1 f fd ["_law_cell", "_law_k", "_law_signs"] (spR K 3 r_law_word) :=
  fnOk_mk F sc_law_word (fun cdv A outer s H E ds a hr hR hn => by
    obtain ⟨v_cell, v_k, v_signs, hk, rfl, rfl⟩ := hR
    exact ⟨_, .rt _, run_law_word T  hr v_cell v_k v_signs hk⟩)
theorem mk_law_word (T : Txt K mg)  {f : Addr} {fd : FuncData} (F : FunD K "_law_word" "_law_word" (defArgs s_law_word) (defBody s_law_word) (defScope s_law_word) [] [] f fd) {x : Str} (gf : mg x = some (.ref f)) : Callee P w K mg base x 1 3 r_law_word :=
  ⟨f, fd, ["_law_cell", "_law_k", "_law_signs"], ok_law_word T  F, gf, F.kp, FunD.bindsN F fun _ _ _ _ _ _ us hl => match us, hl with | [_, _, _], _ => rfl⟩
end
/-! law_pool -/
def m_law_pool_1 (v_words : (List Str)) (v_st : ((List Str))) (v_it : Nat) (v_places : Str) : (Step ((List Str)) (List Str)) := (.nx ((v_st ++ [((itm v_words ((v_it : Int) % (3 : Int))) ++ v_places)]) ++ [(((Str.ofString "-") ++ (itm v_words ((v_it : Int) % (3 : Int)))) ++ v_places)]))
def k_law_pool_1 (v_words : (List Str)) (v_st : ((List Str))) (v_it : Nat) (v_places : Str) : Prop := ((inI v_words ((v_it : Int) % (3 : Int)) = true) ∧ (((itm v_words ((v_it : Int) % (3 : Int)))).length + (v_places).length ≤ bigS) ∧ ((v_st).length + 1 ≤ big) ∧ ((inI v_words ((v_it : Int) % (3 : Int)) = true) ∧ (((Str.ofString "-")).length + ((itm v_words ((v_it : Int) % (3 : Int)))).length ≤ bigS) ∧ ((((Str.ofString "-") ++ (itm v_words ((v_it : Int) % (3 : Int))))).length + (v_places).length ≤ bigS) ∧ (((v_st ++ [((itm v_words ((v_it : Int) % (3 : Int))) ++ v_places)])).length + 1 ≤ big)))
def m_law_pool_2 (v_words : (List Str)) (v_st : ((List Str))) (v_it : Nat) : Step ((List Str)) (List Str) := (m_law_pool_1 v_words v_st v_it (itm [(Str.ofString ""), (((Str.ofString "(") ++ (itm v_words (3 : Int))) ++ (Str.ofString ")")), (((((Str.ofString "(") ++ (itm v_words (4 : Int))) ++ (Str.ofString ",")) ++ (itm v_words (3 : Int))) ++ (Str.ofString ")"))] ((v_it : Int) / (3 : Int))))
def k_law_pool_2 (v_words : (List Str)) (v_st : ((List Str))) (v_it : Nat) : Prop := ((inI v_words (3 : Int) = true) ∧ (((Str.ofString "(")).length + ((itm v_words (3 : Int))).length ≤ bigS) ∧ ((((Str.ofString "(") ++ (itm v_words (3 : Int)))).length + ((Str.ofString ")")).length ≤ bigS) ∧ (inI v_words (4 : Int) = true) ∧ (((Str.ofString "(")).length + ((itm v_words (4 : Int))).length ≤ bigS) ∧ ((((Str.ofString "(") ++ (itm v_words (4 : Int)))).length + ((Str.ofString ",")).length ≤ bigS) ∧ (inI v_words (3 : Int) = true) ∧ (((((Str.ofString "(") ++ (itm v_words (4 : Int))) ++ (Str.ofString ","))).length + ((itm v_words (3 : Int))).length ≤ bigS) ∧ ((((((Str.ofString "(") ++ (itm v_words (4 : Int))) ++ (Str.ofString ",")) ++ (itm v_words (3 : Int)))).length + ((Str.ofString ")")).length ≤ bigS) ∧ (inI [(Str.ofString ""), (((Str.ofString "(") ++ (itm v_words (3 : Int))) ++ (Str.ofString ")")), (((((Str.ofString "(") ++ (itm v_words (4 : Int))) ++ (Str.ofString ",")) ++ (itm v_words (3 : Int))) ++ (Str.ofString ")"))] ((v_it : Int) / (3 : Int)) = true) ∧ (k_law_pool_1 v_words v_st v_it (itm [(Str.ofString ""), (((Str.ofString "(") ++ (itm v_words (3 : Int))) ++ (Str.ofString ")")), (((((Str.ofString "(") ++ (itm v_words (4 : Int))) ++ (Str.ofString ",")) ++ (itm v_words (3 : Int))) ++ (Str.ofString ")"))] ((v_it : Int) / (3 : Int)))))
def m_law_pool_3  (v_st : ((List Str))) : (List Str) := v_st
def m_law_pool_4 (v_cell : Int) (v_words : (List Str)) (v_pool_here : (List Str)) : (List Str) := (loop (m_law_pool_2 v_words) (fun y => y) (m_law_pool_3) (List.range (Int.toNat ((1 : Int) + (v_cell % (9 : Int))))) v_pool_here)
def k_law_pool_4 (v_cell : Int) (v_words : (List Str)) (v_pool_here : (List Str)) : Prop := ((rngOk ((1 : Int) + (v_cell % (9 : Int)))) ∧ (LoopAll (k_law_pool_2 v_words) (fun _ => True) (m_law_pool_2 v_words) (List.range (Int.toNat ((1 : Int) + (v_cell % (9 : Int))))) v_pool_here))
def m_law_pool_5 (v_cell : Int) (v_words : (List Str)) : (List Str) := (m_law_pool_4 v_cell v_words [])
def k_law_pool_5 (v_cell : Int) (v_words : (List Str)) : Prop := (k_law_pool_4 v_cell v_words [])
def m_law_pool (v_cell : Int) : (List Str) := (m_law_pool_5 v_cell (List.map (fun v_item : Nat => (m_law_word ((v_cell / (9 : Int))) ((v_item : Int)) ((Str.ofString "abcdefghijklmnopqrstuvwxyz")))) (List.range (Int.toNat (5 : Int)))))
def k_law_pool (v_cell : Int) : Prop := ((rngOk (5 : Int)) ∧ (((List.range (Int.toNat (5 : Int)))).length ≤ big) ∧ (∀ v_item ∈ (List.range (Int.toNat (5 : Int))), (k_law_word ((v_cell / (9 : Int))) ((v_item : Int)) ((Str.ofString "abcdefghijklmnopqrstuvwxyz")))) ∧ (k_law_pool_5 v_cell (List.map (fun v_item : Nat => (m_law_word ((v_cell / (9 : Int))) ((v_item : Int)) ((Str.ofString "abcdefghijklmnopqrstuvwxyz")))) (List.range (Int.toNat (5 : Int))))))
abbrev s_law_pool : Stmt := top 19
theorem sc_law_pool : FnScope ["_law_cell", "_law_words", "_law_pool_here", "_law_k", "_law_places"] ["_law_cell"] (defScope s_law_pool) := ⟨rfl, rfl, rfl, by decide +kernel, rfl, by decide +kernel, by decide +kernel⟩
def r_law_pool : List Dt → Sum Cell Xc → Prop := fun ds a => ∃ (v_cell : Int), k_law_pool v_cell ∧ ds = [(Dt.int v_cell)] ∧ a = .inl (.ol (List.map Dt.str (m_law_pool v_cell)))
section
variable {P : Program} {w : World} {K : PySem.W.Frag} {mg : Str → Option Value} {base : Heap}
theorem run_law_pool (T : Txt K mg) (c_law_word : Callee P w K mg base "_law_word" 1 3 r_law_word) {f : Addr} {cdv : Value} {A : Around} {outer : List PySem.Env} {s : Shared} {H : Hp} {E : XK} (hr : Room 1 (A.deeper (PyProof.Rows.envOfC "_law_pool" (defScope s_law_pool) s.heap.objs.size f cdv))) (v_cell : Int) (hk : k_law_pool v_cell) :
    Run (cxOf (L2.CX P w) P w K mg base ["_law_cell", "_law_words", "_law_pool_here", "_law_k", "_law_places"] "_law_pool" (defScope s_law_pool) f cdv A outer s H E) K (wE E) sv0 (defBody s_law_pool) (start0 ["_law_cell", "_law_words", "_law_pool_here", "_law_k", "_law_places"] [(Dt.int v_cell)]) (.rt (.ol (List.map Dt.str (m_law_pool v_cell))) none) := by
  obtain ⟨h23, h24, h25, h26⟩ := hk
  refine run_asgLc (i := 1) (v := (List.map (fun v_item : Nat => (m_law_word ((v_cell / (9 : Int))) ((v_item : Int)) ((Str.ofString "abcdefghijklmnopqrstuvwxyz")))) (List.range (Int.toNat (5 : Int))))) (fun z : (List Str) => List.map Dt.str z) (fun v_words => [Zf (Dt.int v_cell), some (.ol (List.map Dt.str v_words)), none, none, none]) (fun v_words => .rt (.ol (List.map Dt.str (m_law_pool_5 v_cell v_words))) none) (k_law_pool_5 v_cell) (own := [("_law_k", 3)]) (fun i : Nat => Dt.int (i : Int)) (fun v_item : Nat => [Zf (Dt.int v_cell), none, none, Zf (Dt.int (v_item : Int)), none]) (fun v_item : Nat => true) (fun v_item : Nat => (Dt.str (m_law_word ((v_cell / (9 : Int))) ((v_item : Int)) ((Str.ofString "abcdefghijklmnopqrstuvwxyz"))))) (fun _ => rfl) (fun _ => sc_law_pool.nd) (src_range1 (fun _ => rfl) (fun _ => T.n_range) ex_int h23.1 h23.2) h24 (fun _ => blkOk_by (by decide +kernel : blkC ["_law_cell", "_law_words", "_law_pool_here", "_law_k", "_law_places"] (defScope s_law_pool) _ [("_law_k", 3)] = true)) (by decide) (fun _ => (pg_name (i := 3) sc_law_pool.nd rfl (by first | exact Or.inl rfl | exact Or.inr rfl))) (fun _ => (bd_name (Nat.blt_eq.mp rfl))) ⟨tYes, fun _ => pts_nil, fun _ _ F H σ fps Q E q => q F H (Up.refl E.sub)⟩ (fun v_item hm hp => (ex_call c_law_word (fun _ => ⟨rfl, rfl, rfl, rfl, rfl⟩) (fun _ => hr.mono (by decide)) (fun _ => rfl) (ea_cons (ex_fdiv (xv 0 rfl) ex_int ⟨by decide, by decide⟩) (ea_cons (xv 3 rfl) (ea_cons (ex_str (h := by decide +kernel)) ea_nil))) rfl ⟨(v_cell / (9 : Int)), (v_item : Int), (Str.ofString "abcdefghijklmnopqrstuvwxyz"), (h25 v_item hm), rfl, rfl⟩)) (lcM_enc Dt.str (fun v_item : Nat => (m_law_word ((v_cell / (9 : Int))) ((v_item : Int)) ((Str.ofString "abcdefghijklmnopqrstuvwxyz")))) (List.range (Int.toNat (5 : Int)))).symm h26 (fun v_words hk => ?_) rfl rfl (Nat.blt_eq.mp rfl) rfl (sw_true rfl rfl rfl (by decide +kernel)) (fun _ => rfl)
  have h22 := hk
  refine run_asgE (i := 2) [] (fun v_pool_here => .ol (List.map Dt.str v_pool_here)) (fun _ => _) (fun v_pool_here => [Zf (Dt.int v_cell), some (.ol (List.map Dt.str v_words)), some (.ol (List.map Dt.str v_pool_here)), none, none]) (fun v_pool_here => .rt (.ol (List.map Dt.str (m_law_pool_4 v_cell v_words v_pool_here))) none) (k_law_pool_4 v_cell v_words) (EN.ev (en_lst ea_nil (Nat.le_of_ble_eq_true rfl))) h22 sc_law_pool.nd (fun _ => rfl) (fun v_pool_here hk => ?_)
  obtain ⟨h20, h21⟩ := hk
  refine run_forQ (js := [3]) (P := (k_law_pool_2 v_words)) (Q := (fun _ => True)) (s0 := v_pool_here) (fun i : Nat => Dt.int (i : Int)) (fun v_st : ((List Str)) => [Zf (Dt.int v_cell), some (.ol (List.map Dt.str v_words)), some (.ol (List.map Dt.str v_st)), none, none]) (fun (v_st : ((List Str))) (v_it : Nat) => [Zf (Dt.int v_cell), some (.ol (List.map Dt.str v_words)), some (.ol (List.map Dt.str v_st)), Zf (Dt.int (v_it : Int)), none]) (fun x : (List Str) => .rt (.ol (List.map Dt.str x)) none) (m_law_pool_2 v_words) (fun y => y) (m_law_pool_3) (passes_of rfl) rfl (pg_name (i := 3) sc_law_pool.nd rfl (by first | exact Or.inl rfl | exact Or.inr rfl)) rfl (fun _ => trivial) (src_range1 (fun _ => rfl) (fun _ => T.n_range) (ex_add ex_int (ex_mod (xv 0 rfl) ex_int (by decide))) h20.1 h20.2) (.keep (.keep (.keep (.keep (.keep .nil))))) (fun _ _ => (bd_name (Nat.blt_eq.mp rfl))) h21 (fun v_st v_it hm hk => ?_) (fun v_st _ => ?_)
  · obtain ⟨h9, h10, h11, h12, h13, h14, h15, h16, h17, h18, h19⟩ := hk
    refine run_asgE (i := 4) (itm [(Str.ofString ""), (((Str.ofString "(") ++ (itm v_words (3 : Int))) ++ (Str.ofString ")")), (((((Str.ofString "(") ++ (itm v_words (4 : Int))) ++ (Str.ofString ",")) ++ (itm v_words (3 : Int))) ++ (Str.ofString ")"))] ((v_it : Int) / (3 : Int))) (fun v_places => .fz (Dt.str v_places)) (fun _ => _) (fun v_places => [Zf (Dt.int v_cell), some (.ol (List.map Dt.str v_words)), some (.ol (List.map Dt.str v_st)), Zf (Dt.int (v_it : Int)), Zf (Dt.str v_places)]) (fun v_places => (Step.out (fun v_st : ((List Str)) => [Zf (Dt.int v_cell), some (.ol (List.map Dt.str v_words)), some (.ol (List.map Dt.str v_st)), none, none]) (fun x : (List Str) => .rt (.ol (List.map Dt.str x)) none) (m_law_pool_1 v_words v_st v_it v_places))) (k_law_pool_1 v_words v_st v_it) (EX.ev (x_ix Dt.str (fun _ => rfl) (EN.es (en_lst (ea_cons (ex_str (h := by decide +kernel)) (ea_cons (ex_cat (ex_cat (ex_str (h := by decide +kernel)) (x_ix Dt.str (fun _ => rfl) (EP.es (pp 1 rfl) rfl) ex_int h9) h10) (ex_str (h := by decide +kernel)) h11) (ea_cons (ex_cat (ex_cat (ex_cat (ex_cat (ex_str (h := by decide +kernel)) (x_ix Dt.str (fun _ => rfl) (EP.es (pp 1 rfl) rfl) ex_int h12) h13) (ex_str (h := by decide +kernel)) h14) (x_ix Dt.str (fun _ => rfl) (EP.es (pp 1 rfl) rfl) ex_int h15) h16) (ex_str (h := by decide +kernel)) h17) ea_nil))) (Nat.le_of_ble_eq_true rfl))) (ex_fdiv (xv 3 rfl) ex_int ⟨by decide, by decide⟩) h18)) h19 sc_law_pool.nd (fun _ => rfl) (fun v_places hk => ?_)
    obtain ⟨h5, h6, h7, h8⟩ := hk
    refine run_append (i := 2) (π := []) (xs := v_st) (y := ((itm v_words ((v_it : Int) % (3 : Int))) ++ v_places)) (G' := [Zf (Dt.int v_cell), some (.ol (List.map Dt.str v_words)), some (.ol (List.map Dt.str (v_st ++ [((itm v_words ((v_it : Int) % (3 : Int))) ++ v_places)]))), Zf (Dt.int (v_it : Int)), Zf (Dt.str v_places)]) Dt.str rfl (pp 2 rfl) rfl (ex_cat (x_ix Dt.str (fun _ => rfl) (EP.es (pp 1 rfl) rfl) (ex_mod (xv 3 rfl) ex_int (by decide)) h5) (xv 4 rfl) h6) h7 rfl ?_
    have hk := h8
    obtain ⟨h1, h2, h3, h4⟩ := hk
    refine run_append (i := 2) (π := []) (xs := (v_st ++ [((itm v_words ((v_it : Int) % (3 : Int))) ++ v_places)])) (y := (((Str.ofString "-") ++ (itm v_words ((v_it : Int) % (3 : Int)))) ++ v_places)) (G' := [Zf (Dt.int v_cell), some (.ol (List.map Dt.str v_words)), some (.ol (List.map Dt.str ((v_st ++ [((itm v_words ((v_it : Int) % (3 : Int))) ++ v_places)]) ++ [(((Str.ofString "-") ++ (itm v_words ((v_it : Int) % (3 : Int)))) ++ v_places)]))), Zf (Dt.int (v_it : Int)), Zf (Dt.str v_places)]) Dt.str rfl (pp 2 rfl) rfl (ex_cat (ex_cat (ex_str (h := by decide +kernel)) (x_ix Dt.str (fun _ => rfl) (EP.es (pp 1 rfl) rfl) (ex_mod (xv 3 rfl) ex_int (by decide)) h1) h2) (xv 4 rfl) h3) h4 rfl ?_
    exact run_end (.keep (.keep (.keep (.drop (.drop .nil)))))
  · exact run_retV (i := 2) rfl rfl (by first | exact Or.inl rfl | exact Or.inr (Or.inl rfl))
theorem ok_law_pool (T : Txt K mg) (c_law_word : Callee P w K mg base "_law_word" 1 3 r_law_word) {f : Addr} {fd : FuncData} (F : FunD K "_law_pool" "_law_pool" (defArgs s_law_pool) (defBody s_law_pool) (defScope s_law_pool) [] [] f fd) : FnOk P w K mg base (L2.CX P w) 2 f fd ["_law_cell"] (spR K 1 r_law_pool) :=
  fnOk_mk F sc_law_pool (fun cdv A outer s H E ds a hr hR hn => by
    obtain ⟨v_cell, hk, rfl, rfl⟩ := hR
    exact ⟨_, .rt _, run_law_pool T c_law_word hr v_cell hk⟩)
theorem mk_law_pool (T : Txt K mg) (c_law_word : Callee P w K mg base "_law_word" 1 3 r_law_word) {f : Addr} {fd : FuncData} (F : FunD K "_law_pool" "_law_pool" (defArgs s_law_pool) (defBody s_law_pool) (defScope s_law_pool) [] [] f fd) {x : Str} (gf : mg x = some (.ref f)) : Callee P w K mg base x 2 1 r_law_pool :=
  ⟨f, fd, ["_law_cell"], ok_law_pool T c_law_word F, gf, F.kp, FunD.bindsN F fun _ _ _ _ _ _ us hl => match us, hl with | [_], _ => rfl⟩
end
/-! law_labels -/
def m_law_labels (v_cell : Int) : (List Str) := (List.map (fun v_item : Nat => (m_law_word ((v_cell / (7 : Int))) ((v_item : Int)) ((Str.ofString "0123456789abcdefghijklmnopqrstuvwxyz")))) (List.range (Int.toNat (12 : Int))))
def k_law_labels (v_cell : Int) : Prop := ((rngOk (12 : Int)) ∧ (((List.range (Int.toNat (12 : Int)))).length ≤ big) ∧ (∀ v_item ∈ (List.range (Int.toNat (12 : Int))), (k_law_word ((v_cell / (7 : Int))) ((v_item : Int)) ((Str.ofString "0123456789abcdefghijklmnopqrstuvwxyz")))))
abbrev s_law_labels : Stmt := top 22
theorem sc_law_labels : FnScope ["_law_cell", "_law_k"] ["_law_cell"] (defScope s_law_labels) := ⟨rfl, rfl, rfl, by decide +kernel, rfl, by decide +kernel, by decide +kernel⟩
def r_law_labels : List Dt → Sum Cell Xc → Prop := fun ds a => ∃ (v_cell : Int), k_law_labels v_cell ∧ ds = [(Dt.int v_cell)] ∧ a = .inl (.ol (List.map Dt.str (m_law_labels v_cell)))
section
variable {P : Program} {w : World} {K : PySem.W.Frag} {mg : Str → Option Value} {base : Heap}
theorem run_law_labels (T : Txt K mg) (c_law_word : Callee P w K mg base "_law_word" 1 3 r_law_word) {f : Addr} {cdv : Value} {A : Around} {outer : List PySem.Env} {s : Shared} {H : Hp} {E : XK} (hr : Room 1 (A.deeper (PyProof.Rows.envOfC "_law_labels" (defScope s_law_labels) s.heap.objs.size f cdv))) (v_cell : Int) (hk : k_law_labels v_cell) :
    Run (cxOf (L2.CX P w) P w K mg base ["_law_cell", "_law_k"] "_law_labels" (defScope s_law_labels) f cdv A outer s H E) K (wE E) sv0 (defBody s_law_labels) (start0 ["_law_cell", "_law_k"] [(Dt.int v_cell)]) (.rt (.ol (List.map Dt.str (m_law_labels v_cell))) none) := by
  obtain ⟨h1, h2, h3⟩ := hk
  exact run_retN (EN.isL (x_lc (own := [("_law_k", 1)]) (fun i : Nat => Dt.int (i : Int)) (fun v_item : Nat => [Zf (Dt.int v_cell), Zf (Dt.int (v_item : Int))]) (fun v_item : Nat => true) (fun v_item : Nat => (Dt.str (m_law_word ((v_cell / (7 : Int))) ((v_item : Int)) ((Str.ofString "0123456789abcdefghijklmnopqrstuvwxyz"))))) (fun _ => rfl) (fun _ => sc_law_labels.nd) (src_range1 (fun _ => rfl) (fun _ => T.n_range) ex_int h1.1 h1.2) h2 (fun _ => blkOk_by (by decide +kernel : blkC ["_law_cell", "_law_k"] (defScope s_law_labels) _ [("_law_k", 1)] = true)) (by decide) (fun _ => (pg_name (i := 1) sc_law_labels.nd rfl (by first | exact Or.inl rfl | exact Or.inr rfl))) (fun _ => (bd_name (Nat.blt_eq.mp rfl))) ⟨tYes, fun _ => pts_nil, fun _ _ F H σ fps Q E q => q F H (Up.refl E.sub)⟩ (fun v_item hm hp => (ex_call c_law_word (fun _ => ⟨rfl, rfl, rfl, rfl, rfl⟩) (fun _ => hr.mono (by decide)) (fun _ => rfl) (ea_cons (ex_fdiv (xv 0 rfl) ex_int ⟨by decide, by decide⟩) (ea_cons (xv 1 rfl) (ea_cons (ex_str (h := by decide +kernel)) ea_nil))) rfl ⟨(v_cell / (7 : Int)), (v_item : Int), (Str.ofString "0123456789abcdefghijklmnopqrstuvwxyz"), (h3 v_item hm), rfl, rfl⟩))) (lcM_enc Dt.str (fun v_item : Nat => (m_law_word ((v_cell / (7 : Int))) ((v_item : Int)) ((Str.ofString "0123456789abcdefghijklmnopqrstuvwxyz")))) (List.range (Int.toNat (12 : Int)))))
theorem ok_law_labels (T : Txt K mg) (c_law_word : Callee P w K mg base "_law_word" 1 3 r_law_word) {f : Addr} {fd : FuncData} (F : FunD K "_law_labels" "_law_labels" (defArgs s_law_labels) (defBody s_law_labels) (defScope s_law_labels) [] [] f fd) : FnOk P w K mg base (L2.CX P w) 2 f fd ["_law_cell"] (spR K 1 r_law_labels) :=
  fnOk_mk F sc_law_labels (fun cdv A outer s H E ds a hr hR hn => by
    obtain ⟨v_cell, hk, rfl, rfl⟩ := hR
    exact ⟨_, .rt _, run_law_labels T c_law_word hr v_cell hk⟩)
theorem mk_law_labels (T : Txt K mg) (c_law_word : Callee P w K mg base "_law_word" 1 3 r_law_word) {f : Addr} {fd : FuncData} (F : FunD K "_law_labels" "_law_labels" (defArgs s_law_labels) (defBody s_law_labels) (defScope s_law_labels) [] [] f fd) {x : Str} (gf : mg x = some (.ref f)) : Callee P w K mg base x 2 1 r_law_labels :=
  ⟨f, fd, ["_law_cell"], ok_law_labels T c_law_word F, gf, F.kp, FunD.bindsN F fun _ _ _ _ _ _ us hl => match us, hl with | [_], _ => rfl⟩
end
/-! law_row_by_digits -/
def m_law_row_by_digits_1 (v_pool_here : (List Str)) (v_size : Int) (v_st : ((List Str) × Int)) (v_rest_1 : Int) : (Step ((List Str) × Int) (Str × Str × Str × (List Str))) := (.nx ((v_st.1 ++ [(itm v_pool_here (v_st.2 % v_size))]), v_rest_1))
def m_law_row_by_digits_2 (v_pool_here : (List Str)) (v_size : Int) (v_st : ((List Str) × Int)) (v_it : Nat) : Step ((List Str) × Int) (Str × Str × Str × (List Str)) := (m_law_row_by_digits_1 v_pool_here v_size v_st (v_st.2 / v_size))
def k_law_row_by_digits_2 (v_pool_here : (List Str)) (v_size : Int) (v_st : ((List Str) × Int)) (v_it : Nat) : Prop := (((0 : Int) < v_size) ∧ (inI v_pool_here (v_st.2 % v_size) = true) ∧ ((v_st.1).length + 1 ≤ big) ∧ ((0 : Int) < v_size ∧ v_size < 1073741824))
def m_law_row_by_digits_3 (v_sort : Str) (v_label : Str) (v_head : Str) (v_st : ((List Str) × Int)) : (Str × Str × Str × (List Str)) := (cond (v_sort == (Str.ofString "fact")) (v_sort, (Str.ofString ""), v_head, []) (v_sort, v_label, v_head, v_st.1))
def m_law_row_by_digits_4 (v_pool_here : (List Str)) (v_size : Int) (v_sort : Str) (v_label : Str) (v_head : Str) (v_many : Int) (v_rest : Int) (v_body : (List Str)) : (Str × Str × Str × (List Str)) := (loop (m_law_row_by_digits_2 v_pool_here v_size) (fun y => y) (m_law_row_by_digits_3 v_sort v_label v_head) (List.range (Int.toNat v_many)) (v_body, v_rest))
def k_law_row_by_digits_4 (v_pool_here : (List Str)) (v_size : Int) (v_sort : Str) (v_label : Str) (v_head : Str) (v_many : Int) (v_rest : Int) (v_body : (List Str)) : Prop := ((rngOk v_many) ∧ (LoopAll (k_law_row_by_digits_2 v_pool_here v_size) (fun _ => True) (m_law_row_by_digits_2 v_pool_here v_size) (List.range (Int.toNat v_many)) (v_body, v_rest)))
def m_law_row_by_digits_5 (v_pool_here : (List Str)) (v_size : Int) (v_sort : Str) (v_label : Str) (v_head : Str) (v_many : Int) (v_rest : Int) : (Str × Str × Str × (List Str)) := (m_law_row_by_digits_4 v_pool_here v_size v_sort v_label v_head v_many v_rest [])
def k_law_row_by_digits_5 (v_pool_here : (List Str)) (v_size : Int) (v_sort : Str) (v_label : Str) (v_head : Str) (v_many : Int) (v_rest : Int) : Prop := (k_law_row_by_digits_4 v_pool_here v_size v_sort v_label v_head v_many v_rest [])
def m_law_row_by_digits_6 (v_cell : Int) (v_pool_here : (List Str)) (v_size : Int) (v_sort : Str) (v_label : Str) (v_head : Str) (v_many : Int) : (Str × Str × Str × (List Str)) := (m_law_row_by_digits_5 v_pool_here v_size v_sort v_label v_head v_many ((v_cell / (480 : Int)) / v_size))
def k_law_row_by_digits_6 (v_cell : Int) (v_pool_here : (List Str)) (v_size : Int) (v_sort : Str) (v_label : Str) (v_head : Str) (v_many : Int) : Prop := (((0 : Int) < v_size ∧ v_size < 1073741824) ∧ (k_law_row_by_digits_5 v_pool_here v_size v_sort v_label v_head v_many ((v_cell / (480 : Int)) / v_size)))
def m_law_row_by_digits_7 (v_cell : Int) (v_pool_here : (List Str)) (v_size : Int) (v_sort : Str) (v_label : Str) (v_head : Str) : (Str × Str × Str × (List Str)) := (m_law_row_by_digits_6 v_cell v_pool_here v_size v_sort v_label v_head (((v_cell / (96 : Int)) / v_size) % (5 : Int)))
def k_law_row_by_digits_7 (v_cell : Int) (v_pool_here : (List Str)) (v_size : Int) (v_sort : Str) (v_label : Str) (v_head : Str) : Prop := (((0 : Int) < v_size ∧ v_size < 1073741824) ∧ (k_law_row_by_digits_6 v_cell v_pool_here v_size v_sort v_label v_head (((v_cell / (96 : Int)) / v_size) % (5 : Int))))
def m_law_row_by_digits_8 (v_cell : Int) (v_pool_here : (List Str)) (v_size : Int) (v_sort : Str) (v_label : Str) : (Str × Str × Str × (List Str)) := (m_law_row_by_digits_7 v_cell v_pool_here v_size v_sort v_label (itm v_pool_here ((v_cell / (96 : Int)) % v_size)))
def k_law_row_by_digits_8 (v_cell : Int) (v_pool_here : (List Str)) (v_size : Int) (v_sort : Str) (v_label : Str) : Prop := (((0 : Int) < v_size) ∧ (inI v_pool_here ((v_cell / (96 : Int)) % v_size) = true) ∧ (k_law_row_by_digits_7 v_cell v_pool_here v_size v_sort v_label (itm v_pool_here ((v_cell / (96 : Int)) % v_size))))
def m_law_row_by_digits_9 (v_cell : Int) (v_pool_here : (List Str)) (v_labels_here : (List Str)) (v_size : Int) (v_sort : Str) : (Str × Str × Str × (List Str)) := (m_law_row_by_digits_8 v_cell v_pool_here v_size v_sort (itm v_labels_here ((v_cell / (8 : Int)) % (12 : Int))))
def k_law_row_by_digits_9 (v_cell : Int) (v_pool_here : (List Str)) (v_labels_here : (List Str)) (v_size : Int) (v_sort : Str) : Prop := ((inI v_labels_here ((v_cell / (8 : Int)) % (12 : Int)) = true) ∧ (k_law_row_by_digits_8 v_cell v_pool_here v_size v_sort (itm v_labels_here ((v_cell / (8 : Int)) % (12 : Int)))))
def m_law_row_by_digits_10 (v_cell : Int) (v_pool_here : (List Str)) (v_labels_here : (List Str)) (v_size : Int) : (Str × Str × Str × (List Str)) := (m_law_row_by_digits_9 v_cell v_pool_here v_labels_here v_size (itm [(Str.ofString "fact"), (Str.ofString "sure"), (Str.ofString "sure"), (Str.ofString "sure"), (Str.ofString "sure"), (Str.ofString "sure"), (Str.ofString "most"), (Str.ofString "block")] (v_cell % (8 : Int))))
def k_law_row_by_digits_10 (v_cell : Int) (v_pool_here : (List Str)) (v_labels_here : (List Str)) (v_size : Int) : Prop := ((inI [(Str.ofString "fact"), (Str.ofString "sure"), (Str.ofString "sure"), (Str.ofString "sure"), (Str.ofString "sure"), (Str.ofString "sure"), (Str.ofString "most"), (Str.ofString "block")] (v_cell % (8 : Int)) = true) ∧ (k_law_row_by_digits_9 v_cell v_pool_here v_labels_here v_size (itm [(Str.ofString "fact"), (Str.ofString "sure"), (Str.ofString "sure"), (Str.ofString "sure"), (Str.ofString "sure"), (Str.ofString "sure"), (Str.ofString "most"), (Str.ofString "block")] (v_cell % (8 : Int)))))
def m_law_row_by_digits (v_cell : Int) (v_pool_here : (List Str)) (v_labels_here : (List Str)) : (Str × Str × Str × (List Str)) := (m_law_row_by_digits_10 v_cell v_pool_here v_labels_here ((v_pool_here).length : Int))
def k_law_row_by_digits (v_cell : Int) (v_pool_here : (List Str)) (v_labels_here : (List Str)) : Prop := (k_law_row_by_digits_10 v_cell v_pool_here v_labels_here ((v_pool_here).length : Int))
abbrev s_law_row_by_digits : Stmt := top 23
theorem sc_law_row_by_digits : FnScope ["_law_cell", "_law_pool_here", "_law_labels_here", "_law_size", "_law_sort", "_law_label", "_law_head", "_law_many", "_law_rest", "_law_body", "_law_j"] ["_law_cell", "_law_pool_here", "_law_labels_here"] (defScope s_law_row_by_digits) := ⟨rfl, rfl, rfl, by decide +kernel, rfl, by decide +kernel, by decide +kernel⟩
def r_law_row_by_digits : List Dt → Sum Cell Xc → Prop := fun ds a => ∃ (v_cell : Int) (v_pool_here : (List Str)) (v_labels_here : (List Str)), k_law_row_by_digits v_cell v_pool_here v_labels_here ∧ ds = [(Dt.int v_cell), (e2_list v_pool_here), (e2_list v_labels_here)] ∧ a = .inl (.fz (e1_tup (m_law_row_by_digits v_cell v_pool_here v_labels_here)))
section
variable {P : Program} {w : World} {K : PySem.W.Frag} {mg : Str → Option Value} {base : Heap}
theorem run_law_row_by_digits (T : Txt K mg)  {f : Addr} {cdv : Value} {A : Around} {outer : List PySem.Env} {s : Shared} {H : Hp} {E : XK} (hr : Room 0 (A.deeper (PyProof.Rows.envOfC "_law_row_by_digits" (defScope s_law_row_by_digits) s.heap.objs.size f cdv))) (v_cell : Int) (v_pool_here : (List Str)) (v_labels_here : (List Str)) (hk : k_law_row_by_digits v_cell v_pool_here v_labels_here) :
    Run (cxOf (L2.CX P w) P w K mg base ["_law_cell", "_law_pool_here", "_law_labels_here", "_law_size", "_law_sort", "_law_label", "_law_head", "_law_many", "_law_rest", "_law_body", "_law_j"] "_law_row_by_digits" (defScope s_law_row_by_digits) f cdv A outer s H E) K (wE E) sv0 (defBody s_law_row_by_digits) (start0 ["_law_cell", "_law_pool_here", "_law_labels_here", "_law_size", "_law_sort", "_law_label", "_law_head", "_law_many", "_law_rest", "_law_body", "_law_j"] [(Dt.int v_cell), (e2_list v_pool_here), (e2_list v_labels_here)]) (.rt (.fz (e1_tup (m_law_row_by_digits v_cell v_pool_here v_labels_here))) none) := by
  have h20 := hk
  refine run_asgE (i := 3) ((v_pool_here).length : Int) (fun v_size => .fz (Dt.int v_size)) (fun _ => _) (fun v_size => [Zf (Dt.int v_cell), Zf (e2_list v_pool_here), Zf (e2_list v_labels_here), Zf (Dt.int v_size), none, none, none, none, none, none, none]) (fun v_size => .rt (.fz (e1_tup (m_law_row_by_digits_10 v_cell v_pool_here v_labels_here v_size))) none) (k_law_row_by_digits_10 v_cell v_pool_here v_labels_here) (EX.ev (x_len Dt.str (fun _ => rfl) (EX.esL (xv 1 rfl)) (fun _ => rfl) (fun _ => T.n_len))) h20 sc_law_row_by_digits.nd (fun _ => rfl) (fun v_size hk => ?_)
  obtain ⟨h18, h19⟩ := hk
  refine run_asgE (i := 4) (itm [(Str.ofString "fact"), (Str.ofString "sure"), (Str.ofString "sure"), (Str.ofString "sure"), (Str.ofString "sure"), (Str.ofString "sure"), (Str.ofString "most"), (Str.ofString "block")] (v_cell % (8 : Int))) (fun v_sort => .fz (Dt.str v_sort)) (fun _ => _) (fun v_sort => [Zf (Dt.int v_cell), Zf (e2_list v_pool_here), Zf (e2_list v_labels_here), Zf (Dt.int v_size), Zf (Dt.str v_sort), none, none, none, none, none, none]) (fun v_sort => .rt (.fz (e1_tup (m_law_row_by_digits_9 v_cell v_pool_here v_labels_here v_size v_sort))) none) (k_law_row_by_digits_9 v_cell v_pool_here v_labels_here v_size) (EX.ev (x_ix Dt.str (fun _ => rfl) (EN.es (en_lst (ea_cons (ex_str (h := by decide +kernel)) (ea_cons (ex_str (h := by decide +kernel)) (ea_cons (ex_str (h := by decide +kernel)) (ea_cons (ex_str (h := by decide +kernel)) (ea_cons (ex_str (h := by decide +kernel)) (ea_cons (ex_str (h := by decide +kernel)) (ea_cons (ex_str (h := by decide +kernel)) (ea_cons (ex_str (h := by decide +kernel)) ea_nil)))))))) (Nat.le_of_ble_eq_true rfl))) (ex_mod (xv 0 rfl) ex_int (by decide)) h18)) h19 sc_law_row_by_digits.nd (fun _ => rfl) (fun v_sort hk => ?_)
  obtain ⟨h16, h17⟩ := hk
  refine run_asgE (i := 5) (itm v_labels_here ((v_cell / (8 : Int)) % (12 : Int))) (fun v_label => .fz (Dt.str v_label)) (fun _ => _) (fun v_label => [Zf (Dt.int v_cell), Zf (e2_list v_pool_here), Zf (e2_list v_labels_here), Zf (Dt.int v_size), Zf (Dt.str v_sort), Zf (Dt.str v_label), none, none, none, none, none]) (fun v_label => .rt (.fz (e1_tup (m_law_row_by_digits_8 v_cell v_pool_here v_size v_sort v_label))) none) (k_law_row_by_digits_8 v_cell v_pool_here v_size v_sort) (EX.ev (x_ix Dt.str (fun _ => rfl) (EX.esL (xv 2 rfl)) (ex_mod (ex_fdiv (xv 0 rfl) ex_int ⟨by decide, by decide⟩) ex_int (by decide)) h16)) h17 sc_law_row_by_digits.nd (fun _ => rfl) (fun v_label hk => ?_)
  obtain ⟨h13, h14, h15⟩ := hk
  refine run_asgE (i := 6) (itm v_pool_here ((v_cell / (96 : Int)) % v_size)) (fun v_head => .fz (Dt.str v_head)) (fun _ => _) (fun v_head => [Zf (Dt.int v_cell), Zf (e2_list v_pool_here), Zf (e2_list v_labels_here), Zf (Dt.int v_size), Zf (Dt.str v_sort), Zf (Dt.str v_label), Zf (Dt.str v_head), none, none, none, none]) (fun v_head => .rt (.fz (e1_tup (m_law_row_by_digits_7 v_cell v_pool_here v_size v_sort v_label v_head))) none) (k_law_row_by_digits_7 v_cell v_pool_here v_size v_sort v_label) (EX.ev (x_ix Dt.str (fun _ => rfl) (EX.esL (xv 1 rfl)) (ex_mod (ex_fdiv (xv 0 rfl) ex_int ⟨by decide, by decide⟩) (xv 3 rfl) h13) h14)) h15 sc_law_row_by_digits.nd (fun _ => rfl) (fun v_head hk => ?_)
  obtain ⟨h11, h12⟩ := hk
  refine run_asgE (i := 7) (((v_cell / (96 : Int)) / v_size) % (5 : Int)) (fun v_many => .fz (Dt.int v_many)) (fun _ => _) (fun v_many => [Zf (Dt.int v_cell), Zf (e2_list v_pool_here), Zf (e2_list v_labels_here), Zf (Dt.int v_size), Zf (Dt.str v_sort), Zf (Dt.str v_label), Zf (Dt.str v_head), Zf (Dt.int v_many), none, none, none]) (fun v_many => .rt (.fz (e1_tup (m_law_row_by_digits_6 v_cell v_pool_here v_size v_sort v_label v_head v_many))) none) (k_law_row_by_digits_6 v_cell v_pool_here v_size v_sort v_label v_head) (EX.ev (ex_mod (ex_fdiv (ex_fdiv (xv 0 rfl) ex_int ⟨by decide, by decide⟩) (xv 3 rfl) h11) ex_int (by decide))) h12 sc_law_row_by_digits.nd (fun _ => rfl) (fun v_many hk => ?_)
  obtain ⟨h9, h10⟩ := hk
  refine run_asgE (i := 8) ((v_cell / (480 : Int)) / v_size) (fun v_rest => .fz (Dt.int v_rest)) (fun _ => _) (fun v_rest => [Zf (Dt.int v_cell), Zf (e2_list v_pool_here), Zf (e2_list v_labels_here), Zf (Dt.int v_size), Zf (Dt.str v_sort), Zf (Dt.str v_label), Zf (Dt.str v_head), Zf (Dt.int v_many), Zf (Dt.int v_rest), none, none]) (fun v_rest => .rt (.fz (e1_tup (m_law_row_by_digits_5 v_pool_here v_size v_sort v_label v_head v_many v_rest))) none) (k_law_row_by_digits_5 v_pool_here v_size v_sort v_label v_head v_many) (EX.ev (ex_fdiv (ex_fdiv (xv 0 rfl) ex_int ⟨by decide, by decide⟩) (xv 3 rfl) h9)) h10 sc_law_row_by_digits.nd (fun _ => rfl) (fun v_rest hk => ?_)
  have h8 := hk
  refine run_asgE (i := 9) [] (fun v_body => .ol (List.map Dt.str v_body)) (fun _ => _) (fun v_body => [Zf (Dt.int v_cell), Zf (e2_list v_pool_here), Zf (e2_list v_labels_here), Zf (Dt.int v_size), Zf (Dt.str v_sort), Zf (Dt.str v_label), Zf (Dt.str v_head), Zf (Dt.int v_many), Zf (Dt.int v_rest), some (.ol (List.map Dt.str v_body)), none]) (fun v_body => .rt (.fz (e1_tup (m_law_row_by_digits_4 v_pool_here v_size v_sort v_label v_head v_many v_rest v_body))) none) (k_law_row_by_digits_4 v_pool_here v_size v_sort v_label v_head v_many v_rest) (EN.ev (en_lst ea_nil (Nat.le_of_ble_eq_true rfl))) h8 sc_law_row_by_digits.nd (fun _ => rfl) (fun v_body hk => ?_)
  obtain ⟨h6, h7⟩ := hk
  refine run_forQ (js := [10]) (P := (k_law_row_by_digits_2 v_pool_here v_size)) (Q := (fun _ => True)) (s0 := (v_body, v_rest)) (fun i : Nat => Dt.int (i : Int)) (fun v_st : ((List Str) × Int) => [Zf (Dt.int v_cell), Zf (e2_list v_pool_here), Zf (e2_list v_labels_here), Zf (Dt.int v_size), Zf (Dt.str v_sort), Zf (Dt.str v_label), Zf (Dt.str v_head), Zf (Dt.int v_many), Zf (Dt.int v_st.2), some (.ol (List.map Dt.str v_st.1)), none]) (fun (v_st : ((List Str) × Int)) (v_it : Nat) => [Zf (Dt.int v_cell), Zf (e2_list v_pool_here), Zf (e2_list v_labels_here), Zf (Dt.int v_size), Zf (Dt.str v_sort), Zf (Dt.str v_label), Zf (Dt.str v_head), Zf (Dt.int v_many), Zf (Dt.int v_st.2), some (.ol (List.map Dt.str v_st.1)), Zf (Dt.int (v_it : Int))]) (fun x : (Str × Str × Str × (List Str)) => .rt (.fz (e1_tup x)) none) (m_law_row_by_digits_2 v_pool_here v_size) (fun y => y) (m_law_row_by_digits_3 v_sort v_label v_head) (passes_of rfl) rfl (pg_name (i := 10) sc_law_row_by_digits.nd rfl (by first | exact Or.inl rfl | exact Or.inr rfl)) rfl (fun _ => trivial) (src_range1 (fun _ => rfl) (fun _ => T.n_range) (xv 7 rfl) h6.1 h6.2) (.keep (.keep (.keep (.keep (.keep (.keep (.keep (.keep (.keep (.keep (.keep .nil))))))))))) (fun _ _ => (bd_name (Nat.blt_eq.mp rfl))) h7 (fun v_st v_it hm hk => ?_) (fun v_st _ => ?_)
  · obtain ⟨h2, h3, h4, h5⟩ := hk
    refine run_append (i := 9) (π := []) (xs := v_st.1) (y := (itm v_pool_here (v_st.2 % v_size))) (G' := [Zf (Dt.int v_cell), Zf (e2_list v_pool_here), Zf (e2_list v_labels_here), Zf (Dt.int v_size), Zf (Dt.str v_sort), Zf (Dt.str v_label), Zf (Dt.str v_head), Zf (Dt.int v_many), Zf (Dt.int v_st.2), some (.ol (List.map Dt.str (v_st.1 ++ [(itm v_pool_here (v_st.2 % v_size))]))), Zf (Dt.int (v_it : Int))]) Dt.str rfl (pp 9 rfl) rfl (x_ix Dt.str (fun _ => rfl) (EX.esL (xv 1 rfl)) (ex_mod (xv 8 rfl) (xv 3 rfl) h2) h3) h4 rfl ?_
    have hk := h5
    have h1 := hk
    refine run_asgE (i := 8) (v_st.2 / v_size) (fun v_rest_1 => .fz (Dt.int v_rest_1)) (fun _ => _) (fun v_rest_1 => [Zf (Dt.int v_cell), Zf (e2_list v_pool_here), Zf (e2_list v_labels_here), Zf (Dt.int v_size), Zf (Dt.str v_sort), Zf (Dt.str v_label), Zf (Dt.str v_head), Zf (Dt.int v_many), Zf (Dt.int v_rest_1), some (.ol (List.map Dt.str (v_st.1 ++ [(itm v_pool_here (v_st.2 % v_size))]))), Zf (Dt.int (v_it : Int))]) (fun v_rest_1 => (Step.out (fun v_st : ((List Str) × Int) => [Zf (Dt.int v_cell), Zf (e2_list v_pool_here), Zf (e2_list v_labels_here), Zf (Dt.int v_size), Zf (Dt.str v_sort), Zf (Dt.str v_label), Zf (Dt.str v_head), Zf (Dt.int v_many), Zf (Dt.int v_st.2), some (.ol (List.map Dt.str v_st.1)), none]) (fun x : (Str × Str × Str × (List Str)) => .rt (.fz (e1_tup x)) none) (m_law_row_by_digits_1 v_pool_here v_size v_st v_rest_1))) (fun _ => True) (EX.ev (ex_fdiv (xv 8 rfl) (xv 3 rfl) h1)) trivial sc_law_row_by_digits.nd (fun _ => rfl) (fun v_rest_1 _ => ?_)
    exact run_end (.keep (.keep (.keep (.keep (.keep (.keep (.keep (.keep (.keep (.keep (.drop .nil)))))))))))
  · refine run_gd (fun x : (Str × Str × Str × (List Str)) => .rt (.fz (e1_tup x)) none) (v_sort, (Str.ofString ""), v_head, []) (v_sort, v_label, v_head, v_st.1) (fun _ h => nomatch h) (eb_cmp says_eqS (xv 4 rfl) (ex_str (h := by decide +kernel))) (fun hb => ?_) (fun hb => ?_)
    · exact run_ret (ex_tup (ea_cons (xv 4 rfl) (ea_cons (ex_str (h := by decide +kernel)) (ea_cons (xv 6 rfl) (ea_cons (ex_tup ea_nil (Nat.le_of_ble_eq_true rfl)) ea_nil)))) (Nat.le_of_ble_eq_true rfl))
    · exact run_ret (ex_tup (ea_cons (xv 4 rfl) (ea_cons (xv 5 rfl) (ea_cons (xv 6 rfl) (ea_cons (ex_tupL (fun _ => rfl) (EP.es (pp 9 rfl) rfl) (fun _ => rfl) (fun _ => T.n_tuple)) ea_nil)))) (Nat.le_of_ble_eq_true rfl))
theorem ok_law_row_by_digits (T : Txt K mg)  {f : Addr} {fd : FuncData} (F : FunD K "_law_row_by_digits" "_law_row_by_digits" (defArgs s_law_row_by_digits) (defBody s_law_row_by_digits) (defScope s_law_row_by_digits) [] [] f fd) : FnOk P w K mg base (L2.CX P w) 1 f fd ["_law_cell", "_law_pool_here", "_law_labels_here"] (spR K 3 r_law_row_by_digits) :=
  fnOk_mk F sc_law_row_by_digits (fun cdv A outer s H E ds a hr hR hn => by
    obtain ⟨v_cell, v_pool_here, v_labels_here, hk, rfl, rfl⟩ := hR
    exact ⟨_, .rt _, run_law_row_by_digits T  hr v_cell v_pool_here v_labels_here hk⟩)
theorem mk_law_row_by_digits (T : Txt K mg)  {f : Addr} {fd : FuncData} (F : FunD K "_law_row_by_digits" "_law_row_by_digits" (defArgs s_law_row_by_digits) (defBody s_law_row_by_digits) (defScope s_law_row_by_digits) [] [] f fd) {x : Str} (gf : mg x = some (.ref f)) : Callee P w K mg base x 1 3 r_law_row_by_digits :=
  ⟨f, fd, ["_law_cell", "_law_pool_here", "_law_labels_here"], ok_law_row_by_digits T  F, gf, F.kp, FunD.bindsN F fun _ _ _ _ _ _ us hl => match us, hl with | [_, _, _], _ => rfl⟩
end
/-! law_mix -/
def m_law_mix_1  (v_number_1 : Int) : Int := (((v_number_1 + (104729 : Int)) * (v_number_1 + (31 : Int))) % (2147483587 : Int))
def k_law_mix_1  (v_number_1 : Int) : Prop := (mulOk (v_number_1 + (104729 : Int)) (v_number_1 + (31 : Int)))
def m_law_mix_2  (v_number : Int) : Int := (m_law_mix_1 ((((v_number * v_number) % (2147483629 : Int)) * (48271 : Int)) % (2147483647 : Int)))
def k_law_mix_2  (v_number : Int) : Prop := ((mulOk v_number v_number) ∧ (k_law_mix_1 ((((v_number * v_number) % (2147483629 : Int)) * (48271 : Int)) % (2147483647 : Int))))
def m_law_mix (v_cell : Int) (v_k : Int) : Int := (m_law_mix_2 (((v_cell + ((7919 : Int) * v_k)) + (12345 : Int)) % (2147483629 : Int)))
def k_law_mix (v_cell : Int) (v_k : Int) : Prop := (k_law_mix_2 (((v_cell + ((7919 : Int) * v_k)) + (12345 : Int)) % (2147483629 : Int)))
abbrev s_law_mix : Stmt := top 17
theorem sc_law_mix : FnScope ["_law_cell", "_law_k", "_law_number"] ["_law_cell", "_law_k"] (defScope s_law_mix) := ⟨rfl, rfl, rfl, by decide +kernel, rfl, by decide +kernel, by decide +kernel⟩
def r_law_mix : List Dt → Sum Cell Xc → Prop := fun ds a => ∃ (v_cell : Int) (v_k : Int), k_law_mix v_cell v_k ∧ ds = [(Dt.int v_cell), (Dt.int v_k)] ∧ a = .inl (.fz (Dt.int (m_law_mix v_cell v_k)))
section
variable {P : Program} {w : World} {K : PySem.W.Frag} {mg : Str → Option Value} {base : Heap}
theorem run_law_mix (T : Txt K mg)  {f : Addr} {cdv : Value} {A : Around} {outer : List PySem.Env} {s : Shared} {H : Hp} {E : XK} (hr : Room 0 (A.deeper (PyProof.Rows.envOfC "_law_mix" (defScope s_law_mix) s.heap.objs.size f cdv))) (v_cell : Int) (v_k : Int) (hk : k_law_mix v_cell v_k) :
    Run (cxOf (L2.CX P w) P w K mg base ["_law_cell", "_law_k", "_law_number"] "_law_mix" (defScope s_law_mix) f cdv A outer s H E) K (wE E) sv0 (defBody s_law_mix) (start0 ["_law_cell", "_law_k", "_law_number"] [(Dt.int v_cell), (Dt.int v_k)]) (.rt (.fz (Dt.int (m_law_mix v_cell v_k))) none) := by
  have h4 := hk
  refine run_asgE (i := 2) (((v_cell + ((7919 : Int) * v_k)) + (12345 : Int)) % (2147483629 : Int)) (fun v_number => .fz (Dt.int v_number)) (fun _ => _) (fun v_number => [Zf (Dt.int v_cell), Zf (Dt.int v_k), Zf (Dt.int v_number)]) (fun v_number => .rt (.fz (Dt.int (m_law_mix_2 v_number))) none) (k_law_mix_2) (EX.ev (ex_mod (ex_add (ex_add (xv 0 rfl) (ex_mul ex_int (xv 1 rfl) (.inl ⟨by decide, by decide⟩))) ex_int) ex_int (by decide))) h4 sc_law_mix.nd (fun _ => rfl) (fun v_number hk => ?_)
  obtain ⟨h2, h3⟩ := hk
  refine run_asgE (i := 2) ((((v_number * v_number) % (2147483629 : Int)) * (48271 : Int)) % (2147483647 : Int)) (fun v_number_1 => .fz (Dt.int v_number_1)) (fun _ => _) (fun v_number_1 => [Zf (Dt.int v_cell), Zf (Dt.int v_k), Zf (Dt.int v_number_1)]) (fun v_number_1 => .rt (.fz (Dt.int (m_law_mix_1 v_number_1))) none) (k_law_mix_1) (EX.ev (ex_mod (ex_mul (ex_mod (ex_mul (xv 2 rfl) (xv 2 rfl) h2) ex_int (by decide)) ex_int (.inr ⟨by decide, by decide⟩)) ex_int (by decide))) h3 sc_law_mix.nd (fun _ => rfl) (fun v_number_1 hk => ?_)
  have h1 := hk
  exact run_ret (ex_mod (ex_mul (ex_add (xv 2 rfl) ex_int) (ex_add (xv 2 rfl) ex_int) h1) ex_int (by decide))
theorem ok_law_mix (T : Txt K mg)  {f : Addr} {fd : FuncData} (F : FunD K "_law_mix" "_law_mix" (defArgs s_law_mix) (defBody s_law_mix) (defScope s_law_mix) [] [] f fd) : FnOk P w K mg base (L2.CX P w) 1 f fd ["_law_cell", "_law_k"] (spR K 2 r_law_mix) :=
  fnOk_mk F sc_law_mix (fun cdv A outer s H E ds a hr hR hn => by
    obtain ⟨v_cell, v_k, hk, rfl, rfl⟩ := hR
    exact ⟨_, .rt _, run_law_mix T  hr v_cell v_k hk⟩)
theorem mk_law_mix (T : Txt K mg)  {f : Addr} {fd : FuncData} (F : FunD K "_law_mix" "_law_mix" (defArgs s_law_mix) (defBody s_law_mix) (defScope s_law_mix) [] [] f fd) {x : Str} (gf : mg x = some (.ref f)) : Callee P w K mg base x 1 2 r_law_mix :=
  ⟨f, fd, ["_law_cell", "_law_k"], ok_law_mix T  F, gf, F.kp, FunD.bindsN F fun _ _ _ _ _ _ us hl => match us, hl with | [_, _], _ => rfl⟩
end
/-! law_row -/
def m_law_row_4 (v_head_1 : Str) (v_body_1 : (List Str)) : (Str × (List Str)) := (v_head_1, v_body_1)
def m_law_row_5 (v_m : Int) (v_k : Int) (v_pool_here : (List Str)) (v_size : Int) (v_head_1 : Str) (v_many : Int) : (Str × (List Str)) := (m_law_row_4 v_head_1 (List.map (fun v_item_1 : Nat => (itm v_pool_here (((((2 : Int) * v_k) - (2 : Int)) - ((m_law_mix v_m (((20 : Int) + (v_item_1 : Int)))) % (3 : Int))) % v_size))) (List.range (Int.toNat v_many))))
def k_law_row_5 (v_m : Int) (v_k : Int) (v_pool_here : (List Str)) (v_size : Int) (v_head_1 : Str) (v_many : Int) : Prop := ((rngOk v_many) ∧ (((List.range (Int.toNat v_many))).length ≤ big) ∧ (∀ v_item_1 ∈ (List.range (Int.toNat v_many)), ((k_law_mix v_m (((20 : Int) + (v_item_1 : Int)))) ∧ ((0 : Int) < v_size) ∧ (inI v_pool_here (((((2 : Int) * v_k) - (2 : Int)) - ((m_law_mix v_m (((20 : Int) + (v_item_1 : Int)))) % (3 : Int))) % v_size) = true))))
def m_law_row_6 (v_m : Int) (v_k : Int) (v_pool_here : (List Str)) (v_size : Int) (v_head_1 : Str) : (Str × (List Str)) := (m_law_row_5 v_m v_k v_pool_here v_size v_head_1 (itm [(1 : Int), (2 : Int), (0 : Int), (1 : Int), (2 : Int), (1 : Int)] ((v_m / (200 : Int)) % (6 : Int))))
def k_law_row_6 (v_m : Int) (v_k : Int) (v_pool_here : (List Str)) (v_size : Int) (v_head_1 : Str) : Prop := ((inI [(1 : Int), (2 : Int), (0 : Int), (1 : Int), (2 : Int), (1 : Int)] ((v_m / (200 : Int)) % (6 : Int)) = true) ∧ (k_law_row_5 v_m v_k v_pool_here v_size v_head_1 (itm [(1 : Int), (2 : Int), (0 : Int), (1 : Int), (2 : Int), (1 : Int)] ((v_m / (200 : Int)) % (6 : Int)))))
def m_law_row_7 (v_m : Int) (v_labels_here : (List Str)) (v_st : (Str × (List Str))) (v_st_1 : (Str)) : (Str × Str × Str × (List Str)) := (v_st_1, (itm v_labels_here ((v_m / (1000 : Int)) % (12 : Int))), v_st.1, v_st.2)
def k_law_row_7 (v_m : Int) (v_labels_here : (List Str)) (v_st : (Str × (List Str))) (v_st_1 : (Str)) : Prop := (inI v_labels_here ((v_m / (1000 : Int)) % (12 : Int)) = true)
def m_law_row_8 (v_m : Int) (v_labels_here : (List Str)) (v_style : Int) (v_st : (Str × (List Str))) (v_sort : Str) : (Str × Str × Str × (List Str)) := (cond ((v_sort == (Str.ofString "fact")) && ((v_style == (0 : Int)) || (((v_m / (1000 : Int)) % (4 : Int)) == (0 : Int)))) (v_sort, (Str.ofString ""), v_st.1, []) (m_law_row_7 v_m v_labels_here v_st (cond (v_sort == (Str.ofString "fact")) (Str.ofString "sure") v_sort)))
def k_law_row_8 (v_m : Int) (v_labels_here : (List Str)) (v_style : Int) (v_st : (Str × (List Str))) (v_sort : Str) : Prop := (((v_sort == (Str.ofString "fact")) && ((v_style == (0 : Int)) || (((v_m / (1000 : Int)) % (4 : Int)) == (0 : Int)))) = false → (k_law_row_7 v_m v_labels_here v_st (cond (v_sort == (Str.ofString "fact")) (Str.ofString "sure") v_sort)))
def m_law_row_9 (v_m : Int) (v_labels_here : (List Str)) (v_style : Int) (v_st : (Str × (List Str))) : (Str × Str × Str × (List Str)) := (m_law_row_8 v_m v_labels_here v_style v_st (itm [(Str.ofString "fact"), (Str.ofString "sure"), (Str.ofString "sure"), (Str.ofString "sure"), (Str.ofString "sure"), (Str.ofString "sure"), (Str.ofString "most"), (Str.ofString "block")] (v_m % (8 : Int))))
def k_law_row_9 (v_m : Int) (v_labels_here : (List Str)) (v_style : Int) (v_st : (Str × (List Str))) : Prop := ((inI [(Str.ofString "fact"), (Str.ofString "sure"), (Str.ofString "sure"), (Str.ofString "sure"), (Str.ofString "sure"), (Str.ofString "sure"), (Str.ofString "most"), (Str.ofString "block")] (v_m % (8 : Int)) = true) ∧ (k_law_row_8 v_m v_labels_here v_style v_st (itm [(Str.ofString "fact"), (Str.ofString "sure"), (Str.ofString "sure"), (Str.ofString "sure"), (Str.ofString "sure"), (Str.ofString "sure"), (Str.ofString "most"), (Str.ofString "block")] (v_m % (8 : Int)))))
def m_law_row_10 (v_m : Int) (v_k : Int) (v_pool_here : (List Str)) (v_labels_here : (List Str)) (v_style : Int) (v_size : Int) (v_head : Str) (v_body : (List Str)) : (Str × Str × Str × (List Str)) := (m_law_row_9 v_m v_labels_here v_style (cond (v_style == (1 : Int)) (m_law_row_6 v_m v_k v_pool_here v_size (itm v_pool_here (((2 : Int) * v_k) % v_size))) (v_head, v_body)))
def k_law_row_10 (v_m : Int) (v_k : Int) (v_pool_here : (List Str)) (v_labels_here : (List Str)) (v_style : Int) (v_size : Int) (v_head : Str) (v_body : (List Str)) : Prop := (((v_style == (1 : Int)) = true → (((0 : Int) < v_size) ∧ (inI v_pool_here (((2 : Int) * v_k) % v_size) = true) ∧ (k_law_row_6 v_m v_k v_pool_here v_size (itm v_pool_here (((2 : Int) * v_k) % v_size))))) ∧ (k_law_row_9 v_m v_labels_here v_style (cond (v_style == (1 : Int)) (m_law_row_6 v_m v_k v_pool_here v_size (itm v_pool_here (((2 : Int) * v_k) % v_size))) (v_head, v_body))))
def m_law_row_11 (v_m : Int) (v_k : Int) (v_pool_here : (List Str)) (v_labels_here : (List Str)) (v_style : Int) (v_size : Int) (v_head : Str) : (Str × Str × Str × (List Str)) := (m_law_row_10 v_m v_k v_pool_here v_labels_here v_style v_size v_head (List.map (fun v_item : Nat => (itm v_pool_here ((m_law_mix v_m (((20 : Int) + (v_item : Int)))) % v_size))) (List.range (Int.toNat ((v_m / (200 : Int)) % (5 : Int))))))
def k_law_row_11 (v_m : Int) (v_k : Int) (v_pool_here : (List Str)) (v_labels_here : (List Str)) (v_style : Int) (v_size : Int) (v_head : Str) : Prop := ((rngOk ((v_m / (200 : Int)) % (5 : Int))) ∧ (((List.range (Int.toNat ((v_m / (200 : Int)) % (5 : Int))))).length ≤ big) ∧ (∀ v_item ∈ (List.range (Int.toNat ((v_m / (200 : Int)) % (5 : Int)))), ((k_law_mix v_m (((20 : Int) + (v_item : Int)))) ∧ ((0 : Int) < v_size) ∧ (inI v_pool_here ((m_law_mix v_m (((20 : Int) + (v_item : Int)))) % v_size) = true))) ∧ (k_law_row_10 v_m v_k v_pool_here v_labels_here v_style v_size v_head (List.map (fun v_item : Nat => (itm v_pool_here ((m_law_mix v_m (((20 : Int) + (v_item : Int)))) % v_size))) (List.range (Int.toNat ((v_m / (200 : Int)) % (5 : Int)))))))
def m_law_row_12 (v_m : Int) (v_k : Int) (v_pool_here : (List Str)) (v_labels_here : (List Str)) (v_style : Int) (v_size : Int) : (Str × Str × Str × (List Str)) := (m_law_row_11 v_m v_k v_pool_here v_labels_here v_style v_size (itm v_pool_here ((v_m / (8 : Int)) % v_size)))
def k_law_row_12 (v_m : Int) (v_k : Int) (v_pool_here : (List Str)) (v_labels_here : (List Str)) (v_style : Int) (v_size : Int) : Prop := (((0 : Int) < v_size) ∧ (inI v_pool_here ((v_m / (8 : Int)) % v_size) = true) ∧ (k_law_row_11 v_m v_k v_pool_here v_labels_here v_style v_size (itm v_pool_here ((v_m / (8 : Int)) % v_size))))
def m_law_row (v_m : Int) (v_k : Int) (v_pool_here : (List Str)) (v_labels_here : (List Str)) (v_style : Int) : (Str × Str × Str × (List Str)) := (m_law_row_12 v_m v_k v_pool_here v_labels_here v_style ((v_pool_here).length : Int))
def k_law_row (v_m : Int) (v_k : Int) (v_pool_here : (List Str)) (v_labels_here : (List Str)) (v_style : Int) : Prop := (k_law_row_12 v_m v_k v_pool_here v_labels_here v_style ((v_pool_here).length : Int))
abbrev s_law_row : Stmt := top 20
theorem sc_law_row : FnScope ["_law_m", "_law_k", "_law_pool_here", "_law_labels_here", "_law_style", "_law_size", "_law_head", "_law_body", "_law_sort", "_law_many", "_law_j"] ["_law_m", "_law_k", "_law_pool_here", "_law_labels_here", "_law_style"] (defScope s_law_row) := ⟨rfl, rfl, rfl, by decide +kernel, rfl, by decide +kernel, by decide +kernel⟩
def r_law_row : List Dt → Sum Cell Xc → Prop := fun ds a => ∃ (v_m : Int) (v_k : Int) (v_pool_here : (List Str)) (v_labels_here : (List Str)) (v_style : Int), k_law_row v_m v_k v_pool_here v_labels_here v_style ∧ ds = [(Dt.int v_m), (Dt.int v_k), (e2_list v_pool_here), (e2_list v_labels_here), (Dt.int v_style)] ∧ a = .inl (.fz (e1_tup (m_law_row v_m v_k v_pool_here v_labels_here v_style)))
section
variable {P : Program} {w : World} {K : PySem.W.Frag} {mg : Str → Option Value} {base : Heap}
theorem run_law_row (T : Txt K mg) (c_law_mix : Callee P w K mg base "_law_mix" 1 2 r_law_mix) {f : Addr} {cdv : Value} {A : Around} {outer : List PySem.Env} {s : Shared} {H : Hp} {E : XK} (hr : Room 1 (A.deeper (PyProof.Rows.envOfC "_law_row" (defScope s_law_row) s.heap.objs.size f cdv))) (v_m : Int) (v_k : Int) (v_pool_here : (List Str)) (v_labels_here : (List Str)) (v_style : Int) (hk : k_law_row v_m v_k v_pool_here v_labels_here v_style) :
    Run (cxOf (L2.CX P w) P w K mg base ["_law_m", "_law_k", "_law_pool_here", "_law_labels_here", "_law_style", "_law_size", "_law_head", "_law_body", "_law_sort", "_law_many", "_law_j"] "_law_row" (defScope s_law_row) f cdv A outer s H E) K (wE E) sv0 (defBody s_law_row) (start0 ["_law_m", "_law_k", "_law_pool_here", "_law_labels_here", "_law_style", "_law_size", "_law_head", "_law_body", "_law_sort", "_law_many", "_law_j"] [(Dt.int v_m), (Dt.int v_k), (e2_list v_pool_here), (e2_list v_labels_here), (Dt.int v_style)]) (.rt (.fz (e1_tup (m_law_row v_m v_k v_pool_here v_labels_here v_style))) none) := by
  have h33 := hk
  refine run_asgE (i := 5) ((v_pool_here).length : Int) (fun v_size => .fz (Dt.int v_size)) (fun _ => _) (fun v_size => [Zf (Dt.int v_m), Zf (Dt.int v_k), Zf (e2_list v_pool_here), Zf (e2_list v_labels_here), Zf (Dt.int v_style), Zf (Dt.int v_size), none, none, none, none, none]) (fun v_size => .rt (.fz (e1_tup (m_law_row_12 v_m v_k v_pool_here v_labels_here v_style v_size))) none) (k_law_row_12 v_m v_k v_pool_here v_labels_here v_style) (EX.ev (x_len Dt.str (fun _ => rfl) (EX.esL (xv 2 rfl)) (fun _ => rfl) (fun _ => T.n_len))) h33 sc_law_row.nd (fun _ => rfl) (fun v_size hk => ?_)
  obtain ⟨h30, h31, h32⟩ := hk
  refine run_asgE (i := 6) (itm v_pool_here ((v_m / (8 : Int)) % v_size)) (fun v_head => .fz (Dt.str v_head)) (fun _ => _) (fun v_head => [Zf (Dt.int v_m), Zf (Dt.int v_k), Zf (e2_list v_pool_here), Zf (e2_list v_labels_here), Zf (Dt.int v_style), Zf (Dt.int v_size), Zf (Dt.str v_head), none, none, none, none]) (fun v_head => .rt (.fz (e1_tup (m_law_row_11 v_m v_k v_pool_here v_labels_here v_style v_size v_head))) none) (k_law_row_11 v_m v_k v_pool_here v_labels_here v_style v_size) (EX.ev (x_ix Dt.str (fun _ => rfl) (EX.esL (xv 2 rfl)) (ex_mod (ex_fdiv (xv 0 rfl) ex_int ⟨by decide, by decide⟩) (xv 5 rfl) h30) h31)) h32 sc_law_row.nd (fun _ => rfl) (fun v_head hk => ?_)
  obtain ⟨h26, h27, h28, h29⟩ := hk
  refine run_asgLc (i := 7) (v := (List.map (fun v_item : Nat => (itm v_pool_here ((m_law_mix v_m (((20 : Int) + (v_item : Int)))) % v_size))) (List.range (Int.toNat ((v_m / (200 : Int)) % (5 : Int)))))) (fun z : (List Str) => List.map Dt.str z) (fun v_body => [Zf (Dt.int v_m), Zf (Dt.int v_k), Zf (e2_list v_pool_here), Zf (e2_list v_labels_here), Zf (Dt.int v_style), Zf (Dt.int v_size), Zf (Dt.str v_head), some (.ol (List.map Dt.str v_body)), none, none, none]) (fun v_body => .rt (.fz (e1_tup (m_law_row_10 v_m v_k v_pool_here v_labels_here v_style v_size v_head v_body))) none) (k_law_row_10 v_m v_k v_pool_here v_labels_here v_style v_size v_head) (own := [("_law_j", 10)]) (fun i : Nat => Dt.int (i : Int)) (fun v_item : Nat => [Zf (Dt.int v_m), Zf (Dt.int v_k), Zf (e2_list v_pool_here), Zf (e2_list v_labels_here), Zf (Dt.int v_style), Zf (Dt.int v_size), Zf (Dt.str v_head), none, none, none, Zf (Dt.int (v_item : Int))]) (fun v_item : Nat => true) (fun v_item : Nat => (Dt.str (itm v_pool_here ((m_law_mix v_m (((20 : Int) + (v_item : Int)))) % v_size)))) (fun _ => rfl) (fun _ => sc_law_row.nd) (src_range1 (fun _ => rfl) (fun _ => T.n_range) (ex_mod (ex_fdiv (xv 0 rfl) ex_int ⟨by decide, by decide⟩) ex_int (by decide)) h26.1 h26.2) h27 (fun _ => blkOk_by (by decide +kernel : blkC ["_law_m", "_law_k", "_law_pool_here", "_law_labels_here", "_law_style", "_law_size", "_law_head", "_law_body", "_law_sort", "_law_many", "_law_j"] (defScope s_law_row) _ [("_law_j", 10)] = true)) (by decide) (fun _ => (pg_name (i := 10) sc_law_row.nd rfl (by first | exact Or.inl rfl | exact Or.inr rfl))) (fun _ => (bd_name (Nat.blt_eq.mp rfl))) ⟨tYes, fun _ => pts_nil, fun _ _ F H σ fps Q E q => q F H (Up.refl E.sub)⟩ (fun v_item hm hp => (x_ix Dt.str (fun _ => rfl) (EX.esL (xv 2 rfl)) (ex_mod (ex_call c_law_mix (fun _ => ⟨rfl, rfl, rfl, rfl, rfl⟩) (fun _ => hr.mono (by decide)) (fun _ => rfl) (ea_cons (xv 0 rfl) (ea_cons (ex_add ex_int (xv 10 rfl)) ea_nil)) rfl ⟨v_m, ((20 : Int) + (v_item : Int)), (h28 v_item hm).1, rfl, rfl⟩) (xv 5 rfl) (h28 v_item hm).2.1) (h28 v_item hm).2.2)) (lcM_enc Dt.str (fun v_item : Nat => (itm v_pool_here ((m_law_mix v_m (((20 : Int) + (v_item : Int)))) % v_size))) (List.range (Int.toNat ((v_m / (200 : Int)) % (5 : Int))))).symm h29 (fun v_body hk => ?_) rfl rfl (Nat.blt_eq.mp rfl) rfl (sw_true rfl rfl rfl (by decide +kernel)) (fun _ => rfl)
  obtain ⟨h24, h25⟩ := hk
  refine run_ifP (s1 := (m_law_row_6 v_m v_k v_pool_here v_size (itm v_pool_here (((2 : Int) * v_k) % v_size)))) (s2 := (v_head, v_body)) (fun v_st : (Str × (List Str)) => [Zf (Dt.int v_m), Zf (Dt.int v_k), Zf (e2_list v_pool_here), Zf (e2_list v_labels_here), Zf (Dt.int v_style), Zf (Dt.int v_size), Zf (Dt.str v_st.1), some (.ol (List.map Dt.str v_st.2)), none, none, none]) (fun v_st => .rt (.fz (e1_tup (m_law_row_9 v_m v_labels_here v_style v_st))) none) (k_law_row_9 v_m v_labels_here v_style) (eb_cmp says_eqI (xv 4 rfl) ex_int) h25 (fun hb => ?_) (fun hb => ?_) (fun v_st hk => ?_)
  · have hk := h24 hb
    obtain ⟨h14, h15, h16⟩ := hk
    refine run_asgE (i := 6) (itm v_pool_here (((2 : Int) * v_k) % v_size)) (fun v_head_1 => .fz (Dt.str v_head_1)) (fun _ => _) (fun v_head_1 => [Zf (Dt.int v_m), Zf (Dt.int v_k), Zf (e2_list v_pool_here), Zf (e2_list v_labels_here), Zf (Dt.int v_style), Zf (Dt.int v_size), Zf (Dt.str v_head_1), some (.ol (List.map Dt.str v_body)), none, none, none]) (fun v_head_1 => .nx ((fun v_st : (Str × (List Str)) => [Zf (Dt.int v_m), Zf (Dt.int v_k), Zf (e2_list v_pool_here), Zf (e2_list v_labels_here), Zf (Dt.int v_style), Zf (Dt.int v_size), Zf (Dt.str v_st.1), some (.ol (List.map Dt.str v_st.2)), none, none, none]) (m_law_row_6 v_m v_k v_pool_here v_size v_head_1))) (k_law_row_6 v_m v_k v_pool_here v_size) (EX.ev (x_ix Dt.str (fun _ => rfl) (EX.esL (xv 2 rfl)) (ex_mod (ex_mul ex_int (xv 1 rfl) (.inl ⟨by decide, by decide⟩)) (xv 5 rfl) h14) h15)) h16 sc_law_row.nd (fun _ => rfl) (fun v_head_1 hk => ?_)
    obtain ⟨h12, h13⟩ := hk
    refine run_asgE (i := 9) (itm [(1 : Int), (2 : Int), (0 : Int), (1 : Int), (2 : Int), (1 : Int)] ((v_m / (200 : Int)) % (6 : Int))) (fun v_many => .fz (Dt.int v_many)) (fun _ => _) (fun v_many => [Zf (Dt.int v_m), Zf (Dt.int v_k), Zf (e2_list v_pool_here), Zf (e2_list v_labels_here), Zf (Dt.int v_style), Zf (Dt.int v_size), Zf (Dt.str v_head_1), some (.ol (List.map Dt.str v_body)), none, Zf (Dt.int v_many), none]) (fun v_many => .nx ((fun v_st : (Str × (List Str)) => [Zf (Dt.int v_m), Zf (Dt.int v_k), Zf (e2_list v_pool_here), Zf (e2_list v_labels_here), Zf (Dt.int v_style), Zf (Dt.int v_size), Zf (Dt.str v_st.1), some (.ol (List.map Dt.str v_st.2)), none, none, none]) (m_law_row_5 v_m v_k v_pool_here v_size v_head_1 v_many))) (k_law_row_5 v_m v_k v_pool_here v_size v_head_1) (EX.ev (x_ix Dt.int (fun _ => rfl) (EN.es (en_lst (ea_cons ex_int (ea_cons ex_int (ea_cons ex_int (ea_cons ex_int (ea_cons ex_int (ea_cons ex_int ea_nil)))))) (Nat.le_of_ble_eq_true rfl))) (ex_mod (ex_fdiv (xv 0 rfl) ex_int ⟨by decide, by decide⟩) ex_int (by decide)) h12)) h13 sc_law_row.nd (fun _ => rfl) (fun v_many hk => ?_)
    obtain ⟨h9, h10, h11⟩ := hk
    refine run_asgLc (i := 7) (v := (List.map (fun v_item_1 : Nat => (itm v_pool_here (((((2 : Int) * v_k) - (2 : Int)) - ((m_law_mix v_m (((20 : Int) + (v_item_1 : Int)))) % (3 : Int))) % v_size))) (List.range (Int.toNat v_many)))) (fun z : (List Str) => List.map Dt.str z) (fun v_body_1 => [Zf (Dt.int v_m), Zf (Dt.int v_k), Zf (e2_list v_pool_here), Zf (e2_list v_labels_here), Zf (Dt.int v_style), Zf (Dt.int v_size), Zf (Dt.str v_head_1), some (.ol (List.map Dt.str v_body_1)), none, Zf (Dt.int v_many), none]) (fun v_body_1 => .nx ((fun v_st : (Str × (List Str)) => [Zf (Dt.int v_m), Zf (Dt.int v_k), Zf (e2_list v_pool_here), Zf (e2_list v_labels_here), Zf (Dt.int v_style), Zf (Dt.int v_size), Zf (Dt.str v_st.1), some (.ol (List.map Dt.str v_st.2)), none, none, none]) (m_law_row_4 v_head_1 v_body_1))) (fun _ => True) (own := [("_law_j", 10)]) (fun i : Nat => Dt.int (i : Int)) (fun v_item_1 : Nat => [Zf (Dt.int v_m), Zf (Dt.int v_k), Zf (e2_list v_pool_here), Zf (e2_list v_labels_here), Zf (Dt.int v_style), Zf (Dt.int v_size), Zf (Dt.str v_head_1), some (.ol (List.map Dt.str v_body)), none, Zf (Dt.int v_many), Zf (Dt.int (v_item_1 : Int))]) (fun v_item_1 : Nat => true) (fun v_item_1 : Nat => (Dt.str (itm v_pool_here (((((2 : Int) * v_k) - (2 : Int)) - ((m_law_mix v_m (((20 : Int) + (v_item_1 : Int)))) % (3 : Int))) % v_size)))) (fun _ => rfl) (fun _ => sc_law_row.nd) (src_range1 (fun _ => rfl) (fun _ => T.n_range) (xv 9 rfl) h9.1 h9.2) h10 (fun _ => blkOk_by (by decide +kernel : blkC ["_law_m", "_law_k", "_law_pool_here", "_law_labels_here", "_law_style", "_law_size", "_law_head", "_law_body", "_law_sort", "_law_many", "_law_j"] (defScope s_law_row) _ [("_law_j", 10)] = true)) (by decide) (fun _ => (pg_name (i := 10) sc_law_row.nd rfl (by first | exact Or.inl rfl | exact Or.inr rfl))) (fun _ => (bd_name (Nat.blt_eq.mp rfl))) ⟨tYes, fun _ => pts_nil, fun _ _ F H σ fps Q E q => q F H (Up.refl E.sub)⟩ (fun v_item_1 hm hp => (x_ix Dt.str (fun _ => rfl) (EX.esL (xv 2 rfl)) (ex_mod (ex_sub (ex_sub (ex_mul ex_int (xv 1 rfl) (.inl ⟨by decide, by decide⟩)) ex_int) (ex_mod (ex_call c_law_mix (fun _ => ⟨rfl, rfl, rfl, rfl, rfl⟩) (fun _ => hr.mono (by decide)) (fun _ => rfl) (ea_cons (xv 0 rfl) (ea_cons (ex_add ex_int (xv 10 rfl)) ea_nil)) rfl ⟨v_m, ((20 : Int) + (v_item_1 : Int)), (h11 v_item_1 hm).1, rfl, rfl⟩) ex_int (by decide))) (xv 5 rfl) (h11 v_item_1 hm).2.1) (h11 v_item_1 hm).2.2)) (lcM_enc Dt.str (fun v_item_1 : Nat => (itm v_pool_here (((((2 : Int) * v_k) - (2 : Int)) - ((m_law_mix v_m (((20 : Int) + (v_item_1 : Int)))) % (3 : Int))) % v_size))) (List.range (Int.toNat v_many))).symm trivial (fun v_body_1 _ => ?_) rfl rfl (Nat.blt_eq.mp rfl) rfl (sw_true rfl rfl rfl (by decide +kernel)) (fun _ => rfl)
    exact run_end (.keep (.keep (.keep (.keep (.keep (.keep (.keep (.keep (.keep (.drop (.keep .nil)))))))))))
  · exact run_end (.keep (.keep (.keep (.keep (.keep (.keep (.keep (.keep (.keep (.keep (.keep .nil)))))))))))
  · obtain ⟨h22, h23⟩ := hk
    refine run_asgE (i := 8) (itm [(Str.ofString "fact"), (Str.ofString "sure"), (Str.ofString "sure"), (Str.ofString "sure"), (Str.ofString "sure"), (Str.ofString "sure"), (Str.ofString "most"), (Str.ofString "block")] (v_m % (8 : Int))) (fun v_sort => .fz (Dt.str v_sort)) (fun _ => _) (fun v_sort => [Zf (Dt.int v_m), Zf (Dt.int v_k), Zf (e2_list v_pool_here), Zf (e2_list v_labels_here), Zf (Dt.int v_style), Zf (Dt.int v_size), Zf (Dt.str v_st.1), some (.ol (List.map Dt.str v_st.2)), Zf (Dt.str v_sort), none, none]) (fun v_sort => .rt (.fz (e1_tup (m_law_row_8 v_m v_labels_here v_style v_st v_sort))) none) (k_law_row_8 v_m v_labels_here v_style v_st) (EX.ev (x_ix Dt.str (fun _ => rfl) (EN.es (en_lst (ea_cons (ex_str (h := by decide +kernel)) (ea_cons (ex_str (h := by decide +kernel)) (ea_cons (ex_str (h := by decide +kernel)) (ea_cons (ex_str (h := by decide +kernel)) (ea_cons (ex_str (h := by decide +kernel)) (ea_cons (ex_str (h := by decide +kernel)) (ea_cons (ex_str (h := by decide +kernel)) (ea_cons (ex_str (h := by decide +kernel)) ea_nil)))))))) (Nat.le_of_ble_eq_true rfl))) (ex_mod (xv 0 rfl) ex_int (by decide)) h22)) h23 sc_law_row.nd (fun _ => rfl) (fun v_sort hk => ?_)
    have h19 := hk
    refine run_gd (fun x : (Str × Str × Str × (List Str)) => .rt (.fz (e1_tup x)) none) (v_sort, (Str.ofString ""), v_st.1, []) (m_law_row_7 v_m v_labels_here v_st (cond (v_sort == (Str.ofString "fact")) (Str.ofString "sure") v_sort)) (fun _ h => nomatch h) (eb_w (ebw_and (eb_cmp says_eqS (xv 8 rfl) (ex_str (h := by decide +kernel))) (fun hb20 => (ebw_and1 (eb_w (ebw_or (eb_cmp says_eqI (xv 4 rfl) ex_int) (fun hb21 => (ebw_or1 (eb_cmp says_eqI (ex_mod (ex_fdiv (xv 0 rfl) ex_int ⟨by decide, by decide⟩) ex_int (by decide)) ex_int))))))))) (fun hb => ?_) (fun hb => ?_)
    · exact run_ret (ex_tup (ea_cons (xv 8 rfl) (ea_cons (ex_str (h := by decide +kernel)) (ea_cons (xv 6 rfl) (ea_cons (ex_tup ea_nil (Nat.le_of_ble_eq_true rfl)) ea_nil)))) (Nat.le_of_ble_eq_true rfl))
    · have hk := h19 hb
      have h18 := hk
      refine run_ifP (s1 := (Str.ofString "sure")) (s2 := v_sort) (fun v_st_1 : (Str) => [Zf (Dt.int v_m), Zf (Dt.int v_k), Zf (e2_list v_pool_here), Zf (e2_list v_labels_here), Zf (Dt.int v_style), Zf (Dt.int v_size), Zf (Dt.str v_st.1), some (.ol (List.map Dt.str v_st.2)), Zf (Dt.str v_st_1), none, none]) (fun v_st_1 => .rt (.fz (e1_tup (m_law_row_7 v_m v_labels_here v_st v_st_1))) none) (k_law_row_7 v_m v_labels_here v_st) (eb_cmp says_eqS (xv 8 rfl) (ex_str (h := by decide +kernel))) h18 (fun hb => ?_) (fun hb => ?_) (fun v_st_1 hk => ?_)
      · refine run_asgQ (i := 8) (Gk := [Zf (Dt.int v_m), Zf (Dt.int v_k), Zf (e2_list v_pool_here), Zf (e2_list v_labels_here), Zf (Dt.int v_style), Zf (Dt.int v_size), Zf (Dt.str v_st.1), some (.ol (List.map Dt.str v_st.2)), Zf (Dt.str (Str.ofString "sure")), none, none]) (EX.ev (ex_str (h := by decide +kernel))) sc_law_row.nd rfl ?_
        exact run_end (.keep (.keep (.keep (.keep (.keep (.keep (.keep (.keep (.keep (.keep (.keep .nil)))))))))))
      · exact run_end (.keep (.keep (.keep (.keep (.keep (.keep (.keep (.keep (.keep (.keep (.keep .nil)))))))))))
      · have h17 := hk
        exact run_ret (ex_tup (ea_cons (xv 8 rfl) (ea_cons (x_ix Dt.str (fun _ => rfl) (EX.esL (xv 3 rfl)) (ex_mod (ex_fdiv (xv 0 rfl) ex_int ⟨by decide, by decide⟩) ex_int (by decide)) h17) (ea_cons (xv 6 rfl) (ea_cons (ex_tupL (fun _ => rfl) (EP.es (pp 7 rfl) rfl) (fun _ => rfl) (fun _ => T.n_tuple)) ea_nil)))) (Nat.le_of_ble_eq_true rfl))
theorem ok_law_row (T : Txt K mg) (c_law_mix : Callee P w K mg base "_law_mix" 1 2 r_law_mix) {f : Addr} {fd : FuncData} (F : FunD K "_law_row" "_law_row" (defArgs s_law_row) (defBody s_law_row) (defScope s_law_row) [] [] f fd) : FnOk P w K mg base (L2.CX P w) 2 f fd ["_law_m", "_law_k", "_law_pool_here", "_law_labels_here", "_law_style"] (spR K 5 r_law_row) :=
  fnOk_mk F sc_law_row (fun cdv A outer s H E ds a hr hR hn => by
    obtain ⟨v_m, v_k, v_pool_here, v_labels_here, v_style, hk, rfl, rfl⟩ := hR
    exact ⟨_, .rt _, run_law_row T c_law_mix hr v_m v_k v_pool_here v_labels_here v_style hk⟩)
theorem mk_law_row (T : Txt K mg) (c_law_mix : Callee P w K mg base "_law_mix" 1 2 r_law_mix) {f : Addr} {fd : FuncData} (F : FunD K "_law_row" "_law_row" (defArgs s_law_row) (defBody s_law_row) (defScope s_law_row) [] [] f fd) {x : Str} (gf : mg x = some (.ref f)) : Callee P w K mg base x 2 5 r_law_row :=
  ⟨f, fd, ["_law_m", "_law_k", "_law_pool_here", "_law_labels_here", "_law_style"], ok_law_row T c_law_mix F, gf, F.kp, FunD.bindsN F fun _ _ _ _ _ _ us hl => match us, hl with | [_, _, _, _, _], _ => rfl⟩
end
/-! law_rows -/
def m_law_rows_1 (v_pool_here : (List Str)) (v_labels_here : (List Str)) (v_style : Int) (v_cells : (List Int)) : (List (Str × Str × Str × (List Str))) := (cond (decide ((1 : Int) < v_style)) (List.map (fun v_item : Int => (m_law_row_by_digits v_item v_pool_here v_labels_here)) v_cells) (List.map (fun v_item_1 : (Nat × Int) => (m_law_row ((m_law_mix v_item_1.2 ((v_item_1.1 : Int)))) ((v_item_1.1 : Int)) v_pool_here v_labels_here v_style)) (enum v_cells)))
def k_law_rows_1 (v_pool_here : (List Str)) (v_labels_here : (List Str)) (v_style : Int) (v_cells : (List Int)) : Prop := (((decide ((1 : Int) < v_style)) = true → (((v_cells).length ≤ big) ∧ (∀ v_item ∈ v_cells, (k_law_row_by_digits v_item v_pool_here v_labels_here)))) ∧ ((decide ((1 : Int) < v_style)) = false → ((((enum v_cells)).length ≤ big) ∧ (∀ v_item_1 ∈ (enum v_cells), ((k_law_mix v_item_1.2 ((v_item_1.1 : Int))) ∧ (k_law_row ((m_law_mix v_item_1.2 ((v_item_1.1 : Int)))) ((v_item_1.1 : Int)) v_pool_here v_labels_here v_style))))))
def m_law_rows_2 (v_script : (List Int)) (v_start : Int) (v_pool_here : (List Str)) (v_labels_here : (List Str)) (v_style : Int) : (List (Str × Str × Str × (List Str))) := (m_law_rows_1 v_pool_here v_labels_here v_style (cut v_script (some v_start) (some (63 : Int))))
def k_law_rows_2 (v_script : (List Int)) (v_start : Int) (v_pool_here : (List Str)) (v_labels_here : (List Str)) (v_style : Int) : Prop := (k_law_rows_1 v_pool_here v_labels_here v_style (cut v_script (some v_start) (some (63 : Int))))
def m_law_rows_3 (v_script : (List Int)) (v_start : Int) (v_pool_here : (List Str)) (v_labels_here : (List Str)) : (List (Str × Str × Str × (List Str))) := (m_law_rows_2 v_script v_start v_pool_here v_labels_here ((m_law_cell_at v_script ((1 : Int))) % (4 : Int)))
def k_law_rows_3 (v_script : (List Int)) (v_start : Int) (v_pool_here : (List Str)) (v_labels_here : (List Str)) : Prop := ((k_law_cell_at v_script ((1 : Int))) ∧ (k_law_rows_2 v_script v_start v_pool_here v_labels_here ((m_law_cell_at v_script ((1 : Int))) % (4 : Int))))
def m_law_rows_4 (v_script : (List Int)) (v_start : Int) (v_pool_here : (List Str)) : (List (Str × Str × Str × (List Str))) := (m_law_rows_3 v_script v_start v_pool_here (m_law_labels ((m_law_cell_at v_script ((0 : Int))))))
def k_law_rows_4 (v_script : (List Int)) (v_start : Int) (v_pool_here : (List Str)) : Prop := ((k_law_cell_at v_script ((0 : Int))) ∧ (k_law_labels ((m_law_cell_at v_script ((0 : Int))))) ∧ (k_law_rows_3 v_script v_start v_pool_here (m_law_labels ((m_law_cell_at v_script ((0 : Int)))))))
def m_law_rows (v_script : (List Int)) (v_start : Int) : (List (Str × Str × Str × (List Str))) := (m_law_rows_4 v_script v_start (m_law_pool ((m_law_cell_at v_script ((0 : Int))))))
def k_law_rows (v_script : (List Int)) (v_start : Int) : Prop := ((k_law_cell_at v_script ((0 : Int))) ∧ (k_law_pool ((m_law_cell_at v_script ((0 : Int))))) ∧ (k_law_rows_4 v_script v_start (m_law_pool ((m_law_cell_at v_script ((0 : Int)))))))
abbrev s_law_rows : Stmt := top 24
theorem sc_law_rows : FnScope ["_law_script", "_law_start", "_law_pool_here", "_law_labels_here", "_law_style", "_law_cells", "_law_cell", "_law_k"] ["_law_script", "_law_start"] (defScope s_law_rows) := ⟨rfl, rfl, rfl, by decide +kernel, rfl, by decide +kernel, by decide +kernel⟩
def r_law_rows : List Dt → Sum Cell Xc → Prop := fun ds a => ∃ (v_script : (List Int)) (v_start : Int), k_law_rows v_script v_start ∧ ds = [(e3_scr v_script), (Dt.int v_start)] ∧ a = .inl (.ol (List.map e1_tup (m_law_rows v_script v_start)))
section
variable {P : Program} {w : World} {K : PySem.W.Frag} {mg : Str → Option Value} {base : Heap}
theorem run_law_rows (T : Txt K mg) (c_law_cell_at : Callee P w K mg base "_law_cell_at" 1 2 r_law_cell_at) (c_law_labels : Callee P w K mg base "_law_labels" 2 1 r_law_labels) (c_law_mix : Callee P w K mg base "_law_mix" 1 2 r_law_mix) (c_law_pool : Callee P w K mg base "_law_pool" 2 1 r_law_pool) (c_law_row : Callee P w K mg base "_law_row" 2 5 r_law_row) (c_law_row_by_digits : Callee P w K mg base "_law_row_by_digits" 1 3 r_law_row_by_digits) {f : Addr} {cdv : Value} {A : Around} {outer : List PySem.Env} {s : Shared} {H : Hp} {E : XK} (hr : Room 2 (A.deeper (PyProof.Rows.envOfC "_law_rows" (defScope s_law_rows) s.heap.objs.size f cdv))) (v_script : (List Int)) (v_start : Int) (hk : k_law_rows v_script v_start) :
    Run (cxOf (L2.CX P w) P w K mg base ["_law_script", "_law_start", "_law_pool_here", "_law_labels_here", "_law_style", "_law_cells", "_law_cell", "_law_k"] "_law_rows" (defScope s_law_rows) f cdv A outer s H E) K (wE E) sv0 (defBody s_law_rows) (start0 ["_law_script", "_law_start", "_law_pool_here", "_law_labels_here", "_law_style", "_law_cells", "_law_cell", "_law_k"] [(e3_scr v_script), (Dt.int v_start)]) (.rt (.ol (List.map e1_tup (m_law_rows v_script v_start))) none) := by
  obtain ⟨h13, h14, h15⟩ := hk
  refine run_asgE (i := 2) (m_law_pool ((m_law_cell_at v_script ((0 : Int))))) (fun v_pool_here => .fz (e2_list v_pool_here)) (fun _ => _) (fun v_pool_here => [Zf (e3_scr v_script), Zf (Dt.int v_start), Zf (e2_list v_pool_here), none, none, none, none, none]) (fun v_pool_here => .rt (.ol (List.map e1_tup (m_law_rows_4 v_script v_start v_pool_here))) none) (k_law_rows_4 v_script v_start) (EX.ev (EN.frz (en_call c_law_pool (fun _ => ⟨rfl, rfl, rfl, rfl, rfl⟩) (fun _ => hr.mono (by decide)) (fun _ => rfl) (ea_cons (ex_call c_law_cell_at (fun _ => ⟨rfl, rfl, rfl, rfl, rfl⟩) (fun _ => hr.mono (by decide)) (fun _ => rfl) (ea_cons (xv 0 rfl) (ea_cons ex_int ea_nil)) rfl ⟨v_script, (0 : Int), h13, rfl, rfl⟩) ea_nil) rfl ⟨(m_law_cell_at v_script ((0 : Int))), h14, rfl, rfl⟩) rfl)) h15 sc_law_rows.nd (fun _ => rfl) (fun v_pool_here hk => ?_)
  obtain ⟨h10, h11, h12⟩ := hk
  refine run_asgE (i := 3) (m_law_labels ((m_law_cell_at v_script ((0 : Int))))) (fun v_labels_here => .fz (e2_list v_labels_here)) (fun _ => _) (fun v_labels_here => [Zf (e3_scr v_script), Zf (Dt.int v_start), Zf (e2_list v_pool_here), Zf (e2_list v_labels_here), none, none, none, none]) (fun v_labels_here => .rt (.ol (List.map e1_tup (m_law_rows_3 v_script v_start v_pool_here v_labels_here))) none) (k_law_rows_3 v_script v_start v_pool_here) (EX.ev (EN.frz (en_call c_law_labels (fun _ => ⟨rfl, rfl, rfl, rfl, rfl⟩) (fun _ => hr.mono (by decide)) (fun _ => rfl) (ea_cons (ex_call c_law_cell_at (fun _ => ⟨rfl, rfl, rfl, rfl, rfl⟩) (fun _ => hr.mono (by decide)) (fun _ => rfl) (ea_cons (xv 0 rfl) (ea_cons ex_int ea_nil)) rfl ⟨v_script, (0 : Int), h10, rfl, rfl⟩) ea_nil) rfl ⟨(m_law_cell_at v_script ((0 : Int))), h11, rfl, rfl⟩) rfl)) h12 sc_law_rows.nd (fun _ => rfl) (fun v_labels_here hk => ?_)
  obtain ⟨h8, h9⟩ := hk
  refine run_asgE (i := 4) ((m_law_cell_at v_script ((1 : Int))) % (4 : Int)) (fun v_style => .fz (Dt.int v_style)) (fun _ => _) (fun v_style => [Zf (e3_scr v_script), Zf (Dt.int v_start), Zf (e2_list v_pool_here), Zf (e2_list v_labels_here), Zf (Dt.int v_style), none, none, none]) (fun v_style => .rt (.ol (List.map e1_tup (m_law_rows_2 v_script v_start v_pool_here v_labels_here v_style))) none) (k_law_rows_2 v_script v_start v_pool_here v_labels_here) (EX.ev (ex_mod (ex_call c_law_cell_at (fun _ => ⟨rfl, rfl, rfl, rfl, rfl⟩) (fun _ => hr.mono (by decide)) (fun _ => rfl) (ea_cons (xv 0 rfl) (ea_cons ex_int ea_nil)) rfl ⟨v_script, (1 : Int), h8, rfl, rfl⟩) ex_int (by decide))) h9 sc_law_rows.nd (fun _ => rfl) (fun v_style hk => ?_)
  have h7 := hk
  refine run_asgE (i := 5) (cut v_script (some v_start) (some (63 : Int))) (fun v_cells => .fz (e4_list v_cells)) (fun _ => _) (fun v_cells => [Zf (e3_scr v_script), Zf (Dt.int v_start), Zf (e2_list v_pool_here), Zf (e2_list v_labels_here), Zf (Dt.int v_style), Zf (e4_list v_cells), none, none]) (fun v_cells => .rt (.ol (List.map e1_tup (m_law_rows_1 v_pool_here v_labels_here v_style v_cells))) none) (k_law_rows_1 v_pool_here v_labels_here v_style) (EX.ev (EN.frz (x_sliceL Dt.int (fun _ => rfl) (EX.esS (xv 0 rfl)) (eo_some (xv 1 rfl)) (eo_some ex_int)) rfl)) h7 sc_law_rows.nd (fun _ => rfl) (fun v_cells hk => ?_)
  obtain ⟨h5, h6⟩ := hk
  refine run_gd (fun x : (List (Str × Str × Str × (List Str))) => .rt (.ol (List.map e1_tup x)) none) (List.map (fun v_item : Int => (m_law_row_by_digits v_item v_pool_here v_labels_here)) v_cells) (List.map (fun v_item_1 : (Nat × Int) => (m_law_row ((m_law_mix v_item_1.2 ((v_item_1.1 : Int)))) ((v_item_1.1 : Int)) v_pool_here v_labels_here v_style)) (enum v_cells)) (fun _ h => nomatch h) (eb_cmp says_gt (xv 4 rfl) ex_int) (fun hb => ?_) (fun hb => ?_)
  · have hk := h5 hb
    obtain ⟨h1, h2⟩ := hk
    exact run_retN (EN.isL (x_lc (own := [("_law_cell", 6)]) Dt.int (fun v_item : Int => [Zf (e3_scr v_script), Zf (Dt.int v_start), Zf (e2_list v_pool_here), Zf (e2_list v_labels_here), Zf (Dt.int v_style), Zf (e4_list v_cells), Zf (Dt.int v_item), none]) (fun v_item : Int => true) (fun v_item : Int => (e1_tup (m_law_row_by_digits v_item v_pool_here v_labels_here))) (fun _ => rfl) (fun _ => sc_law_rows.nd) (src_list (fun _ => rfl) (xv 5 rfl)) h1 (fun _ => blkOk_by (by decide +kernel : blkC ["_law_script", "_law_start", "_law_pool_here", "_law_labels_here", "_law_style", "_law_cells", "_law_cell", "_law_k"] (defScope s_law_rows) _ [("_law_cell", 6)] = true)) (by decide) (fun _ => (pg_name (i := 6) sc_law_rows.nd rfl (by first | exact Or.inl rfl | exact Or.inr rfl))) (fun _ => (bd_name (Nat.blt_eq.mp rfl))) ⟨tYes, fun _ => pts_nil, fun _ _ F H σ fps Q E q => q F H (Up.refl E.sub)⟩ (fun v_item hm hp => (ex_call c_law_row_by_digits (fun _ => ⟨rfl, rfl, rfl, rfl, rfl⟩) (fun _ => hr.mono (by decide)) (fun _ => rfl) (ea_cons (xv 6 rfl) (ea_cons (xv 2 rfl) (ea_cons (xv 3 rfl) ea_nil))) rfl ⟨v_item, v_pool_here, v_labels_here, (h2 v_item hm), rfl, rfl⟩))) (lcM_enc e1_tup (fun v_item : Int => (m_law_row_by_digits v_item v_pool_here v_labels_here)) v_cells))
  · have hk := h6 hb
    obtain ⟨h3, h4⟩ := hk
    exact run_retN (EN.isL (x_lc (own := [("_law_k", 7), ("_law_cell", 6)]) (fun z : (Nat × Int) => Dt.tup [Dt.int (z.1 : Int), (Dt.int z.2)]) (fun v_item_1 : (Nat × Int) => [Zf (e3_scr v_script), Zf (Dt.int v_start), Zf (e2_list v_pool_here), Zf (e2_list v_labels_here), Zf (Dt.int v_style), Zf (e4_list v_cells), Zf (Dt.int v_item_1.2), Zf (Dt.int (v_item_1.1 : Int))]) (fun v_item_1 : (Nat × Int) => true) (fun v_item_1 : (Nat × Int) => (e1_tup (m_law_row ((m_law_mix v_item_1.2 ((v_item_1.1 : Int)))) ((v_item_1.1 : Int)) v_pool_here v_labels_here v_style))) (fun _ => rfl) (fun _ => sc_law_rows.nd) (x_enum Dt.int (fun _ => rfl) (fun _ => rfl) (fun _ => T.n_enumerate) (xv 5 rfl)) h3 (fun _ => blkOk_by (by decide +kernel : blkC ["_law_script", "_law_start", "_law_pool_here", "_law_labels_here", "_law_style", "_law_cells", "_law_cell", "_law_k"] (defScope s_law_rows) _ [("_law_k", 7), ("_law_cell", 6)] = true)) (by decide) (fun _ => (pg_tup (n := 2) rfl (pgs_cons (pg_name (i := 7) sc_law_rows.nd rfl (by first | exact Or.inl rfl | exact Or.inr rfl)) (pgs_cons (pg_name (i := 6) sc_law_rows.nd rfl (by first | exact Or.inl rfl | exact Or.inr rfl)) pgs_nil)))) (fun _ => (bd_tup (bdl_cons (bd_name (Nat.blt_eq.mp rfl)) (bdl_cons (bd_name (Nat.blt_eq.mp rfl)) bdl_nil)) rfl)) ⟨tYes, fun _ => pts_nil, fun _ _ F H σ fps Q E q => q F H (Up.refl E.sub)⟩ (fun v_item_1 hm hp => (ex_call c_law_row (fun _ => ⟨rfl, rfl, rfl, rfl, rfl⟩) (fun _ => hr.mono (by decide)) (fun _ => rfl) (ea_cons (ex_call c_law_mix (fun _ => ⟨rfl, rfl, rfl, rfl, rfl⟩) (fun _ => hr.mono (by decide)) (fun _ => rfl) (ea_cons (xv 6 rfl) (ea_cons (xv 7 rfl) ea_nil)) rfl ⟨v_item_1.2, (v_item_1.1 : Int), (h4 v_item_1 hm).1, rfl, rfl⟩) (ea_cons (xv 7 rfl) (ea_cons (xv 2 rfl) (ea_cons (xv 3 rfl) (ea_cons (xv 4 rfl) ea_nil))))) rfl ⟨(m_law_mix v_item_1.2 ((v_item_1.1 : Int))), (v_item_1.1 : Int), v_pool_here, v_labels_here, v_style, (h4 v_item_1 hm).2, rfl, rfl⟩))) (lcM_enc e1_tup (fun v_item_1 : (Nat × Int) => (m_law_row ((m_law_mix v_item_1.2 ((v_item_1.1 : Int)))) ((v_item_1.1 : Int)) v_pool_here v_labels_here v_style)) (enum v_cells)))
theorem ok_law_rows (T : Txt K mg) (c_law_cell_at : Callee P w K mg base "_law_cell_at" 1 2 r_law_cell_at) (c_law_labels : Callee P w K mg base "_law_labels" 2 1 r_law_labels) (c_law_mix : Callee P w K mg base "_law_mix" 1 2 r_law_mix) (c_law_pool : Callee P w K mg base "_law_pool" 2 1 r_law_pool) (c_law_row : Callee P w K mg base "_law_row" 2 5 r_law_row) (c_law_row_by_digits : Callee P w K mg base "_law_row_by_digits" 1 3 r_law_row_by_digits) {f : Addr} {fd : FuncData} (F : FunD K "_law_rows" "_law_rows" (defArgs s_law_rows) (defBody s_law_rows) (defScope s_law_rows) [] [] f fd) : FnOk P w K mg base (L2.CX P w) 3 f fd ["_law_script", "_law_start"] (spR K 2 r_law_rows) :=
  fnOk_mk F sc_law_rows (fun cdv A outer s H E ds a hr hR hn => by
    obtain ⟨v_script, v_start, hk, rfl, rfl⟩ := hR
    exact ⟨_, .rt _, run_law_rows T c_law_cell_at c_law_labels c_law_mix c_law_pool c_law_row c_law_row_by_digits hr v_script v_start hk⟩)
theorem mk_law_rows (T : Txt K mg) (c_law_cell_at : Callee P w K mg base "_law_cell_at" 1 2 r_law_cell_at) (c_law_labels : Callee P w K mg base "_law_labels" 2 1 r_law_labels) (c_law_mix : Callee P w K mg base "_law_mix" 1 2 r_law_mix) (c_law_pool : Callee P w K mg base "_law_pool" 2 1 r_law_pool) (c_law_row : Callee P w K mg base "_law_row" 2 5 r_law_row) (c_law_row_by_digits : Callee P w K mg base "_law_row_by_digits" 1 3 r_law_row_by_digits) {f : Addr} {fd : FuncData} (F : FunD K "_law_rows" "_law_rows" (defArgs s_law_rows) (defBody s_law_rows) (defScope s_law_rows) [] [] f fd) {x : Str} (gf : mg x = some (.ref f)) : Callee P w K mg base x 3 2 r_law_rows :=
  ⟨f, fd, ["_law_script", "_law_start"], ok_law_rows T c_law_cell_at c_law_labels c_law_mix c_law_pool c_law_row c_law_row_by_digits F, gf, F.kp, FunD.bindsN F fun _ _ _ _ _ _ us hl => match us, hl with | [_, _], _ => rfl⟩
end
/-! law_rounds -/
def m_law_rounds_1  (v_st : ((List (Str × Bool)))) (v_it : Str) : Step ((List (Str × Bool))) (List (Str × Int)) := (.nx (puts v_st v_it true))
def k_law_rounds_1  (v_st : ((List (Str × Bool)))) (v_it : Str) : Prop := ((v_st).length + 1 ≤ big)
def m_law_rounds_2  (v_st_3 : ((List Str))) : (Step ((List Str)) (List (Str × Int))) := (.nx v_st_3)
def m_law_rounds_3 (v_st_1 : (Int × (List Str) × (List (Str × Bool)) × (List (Str × Int)))) (v_st_2 : ((List Str))) (v_it_1 : (Str × Str × Str × (List Str))) : Step ((List Str)) (List (Str × Int)) := (m_law_rounds_2 (cond ((List.elem v_it_1.1 [(Str.ofString "fact"), (Str.ofString "sure")]) && ((!hasK v_st_1.2.2.1 v_it_1.2.2.1) && ((lcF (fun v_item_1 : Str => (!hasK v_st_1.2.2.1 v_item_1)) (fun v_item_1 : Str => v_item_1) v_it_1.2.2.2) == []))) (v_st_2 ++ [v_it_1.2.2.1]) v_st_2))
def k_law_rounds_3 (v_st_1 : (Int × (List Str) × (List (Str × Bool)) × (List (Str × Int)))) (v_st_2 : ((List Str))) (v_it_1 : (Str × Str × Str × (List Str))) : Prop := (((List.elem v_it_1.1 [(Str.ofString "fact"), (Str.ofString "sure")]) = true → ((!hasK v_st_1.2.2.1 v_it_1.2.2.1) = true → ((v_it_1.2.2.2).length ≤ big))) ∧ (((List.elem v_it_1.1 [(Str.ofString "fact"), (Str.ofString "sure")]) && ((!hasK v_st_1.2.2.1 v_it_1.2.2.1) && ((lcF (fun v_item_1 : Str => (!hasK v_st_1.2.2.1 v_item_1)) (fun v_item_1 : Str => v_item_1) v_it_1.2.2.2) == []))) = true → ((v_st_2).length + 1 ≤ big)))
def m_law_rounds_4 (v_st_1 : (Int × (List Str) × (List (Str × Bool)) × (List (Str × Int)))) (v_st_4 : ((List (Str × Bool)) × (List (Str × Int)))) (v_it_2 : Str) : Step ((List (Str × Bool)) × (List (Str × Int))) (List (Str × Int)) := (.nx ((puts v_st_4.1 v_it_2 true), (puts v_st_4.2 v_it_2 (v_st_1.1 + (1 : Int)))))
def k_law_rounds_4 (v_st_1 : (Int × (List Str) × (List (Str × Bool)) × (List (Str × Int)))) (v_st_4 : ((List (Str × Bool)) × (List (Str × Int)))) (v_it_2 : Str) : Prop := (((v_st_4.1).length + 1 ≤ big) ∧ ((v_st_4.2).length + 1 ≤ big))
def m_law_rounds_5  (v_st_7 : ((List Str))) : (Step ((List Str)) (List (Str × Int))) := (.nx v_st_7)
def m_law_rounds_6 (v_st_5 : (Int × (List Str) × (List (Str × Bool)) × (List (Str × Int)))) (v_st_6 : ((List Str))) (v_it_3 : (Str × Str × Str × (List Str))) : Step ((List Str)) (List (Str × Int)) := (m_law_rounds_5 (cond ((List.elem v_it_3.1 [(Str.ofString "fact"), (Str.ofString "sure")]) && ((!hasK v_st_5.2.2.1 v_it_3.2.2.1) && ((lcF (fun v_item_3 : Str => (!hasK v_st_5.2.2.1 v_item_3)) (fun v_item_3 : Str => v_item_3) v_it_3.2.2.2) == []))) (v_st_6 ++ [v_it_3.2.2.1]) v_st_6))
def k_law_rounds_6 (v_st_5 : (Int × (List Str) × (List (Str × Bool)) × (List (Str × Int)))) (v_st_6 : ((List Str))) (v_it_3 : (Str × Str × Str × (List Str))) : Prop := (((List.elem v_it_3.1 [(Str.ofString "fact"), (Str.ofString "sure")]) = true → ((!hasK v_st_5.2.2.1 v_it_3.2.2.1) = true → ((v_it_3.2.2.2).length ≤ big))) ∧ (((List.elem v_it_3.1 [(Str.ofString "fact"), (Str.ofString "sure")]) && ((!hasK v_st_5.2.2.1 v_it_3.2.2.1) && ((lcF (fun v_item_3 : Str => (!hasK v_st_5.2.2.1 v_item_3)) (fun v_item_3 : Str => v_item_3) v_it_3.2.2.2) == []))) = true → ((v_st_6).length + 1 ≤ big)))
def m_law_rounds_7 (v_st_5 : (Int × (List Str) × (List (Str × Bool)) × (List (Str × Int)))) (v_st_8 : ((List (Str × Bool)) × (List (Str × Int)))) (v_it_4 : Str) : Step ((List (Str × Bool)) × (List (Str × Int))) (List (Str × Int)) := (.nx ((puts v_st_8.1 v_it_4 true), (puts v_st_8.2 v_it_4 (v_st_5.1 + (1 : Int)))))
def k_law_rounds_7 (v_st_5 : (Int × (List Str) × (List (Str × Bool)) × (List (Str × Int)))) (v_st_8 : ((List (Str × Bool)) × (List (Str × Int)))) (v_it_4 : Str) : Prop := (((v_st_8.1).length + 1 ≤ big) ∧ ((v_st_8.2).length + 1 ≤ big))
def m_law_rounds_8 (v_st_5 : (Int × (List Str) × (List (Str × Bool)) × (List (Str × Int)))) (v_st_6 : ((List Str))) (v_st_8 : ((List (Str × Bool)) × (List (Str × Int)))) : (Step (Int × (List Str) × (List (Str × Bool)) × (List (Str × Int))) (List (Str × Int))) := (.nx ((v_st_5.1 + (1 : Int)), v_st_6, v_st_8.1, v_st_8.2))
def m_law_rounds_9 (v_st_5 : (Int × (List Str) × (List (Str × Bool)) × (List (Str × Int)))) (v_st_6 : ((List Str))) : (Step (Int × (List Str) × (List (Str × Bool)) × (List (Str × Int))) (List (Str × Int))) := (loop (m_law_rounds_7 v_st_5) (fun y => Step.fin y) (m_law_rounds_8 v_st_5 v_st_6) v_st_6 (v_st_5.2.2.1, v_st_5.2.2.2))
def k_law_rounds_9 (v_st_5 : (Int × (List Str) × (List (Str × Bool)) × (List (Str × Int)))) (v_st_6 : ((List Str))) : Prop := (LoopAll (k_law_rounds_7 v_st_5) (fun _ => True) (m_law_rounds_7 v_st_5) v_st_6 (v_st_5.2.2.1, v_st_5.2.2.2))
def m_law_rounds_10 (v_rows_here : (List (Str × Str × Str × (List Str)))) (v_st_5 : (Int × (List Str) × (List (Str × Bool)) × (List (Str × Int)))) (v_fresh_2 : (List Str)) : (Step (Int × (List Str) × (List (Str × Bool)) × (List (Str × Int))) (List (Str × Int))) := (loop (m_law_rounds_6 v_st_5) (fun y => Step.fin y) (m_law_rounds_9 v_st_5) v_rows_here v_fresh_2)
def k_law_rounds_10 (v_rows_here : (List (Str × Str × Str × (List Str)))) (v_st_5 : (Int × (List Str) × (List (Str × Bool)) × (List (Str × Int)))) (v_fresh_2 : (List Str)) : Prop := (LoopAll (k_law_rounds_6 v_st_5) (k_law_rounds_9 v_st_5) (m_law_rounds_6 v_st_5) v_rows_here v_fresh_2)
def m_law_rounds_11 (v_rows_here : (List (Str × Str × Str × (List Str)))) (v_st_5 : (Int × (List Str) × (List (Str × Bool)) × (List (Str × Int)))) : Step (Int × (List Str) × (List (Str × Bool)) × (List (Str × Int))) (List (Str × Int)) := (m_law_rounds_10 v_rows_here v_st_5 [])
def m_law_rounds_12 (v_rows_here : (List (Str × Str × Str × (List Str)))) (v_st_5 : (Int × (List Str) × (List (Str × Bool)) × (List (Str × Int)))) : Bool := (!(v_st_5.2.1 == []))
def k_law_rounds_12 (v_rows_here : (List (Str × Str × Str × (List Str)))) (v_st_5 : (Int × (List Str) × (List (Str × Bool)) × (List (Str × Int)))) : Prop := ((!(v_st_5.2.1 == [])) = true → (k_law_rounds_10 v_rows_here v_st_5 []))
def m_law_rounds_13  (v_st_5 : (Int × (List Str) × (List (Str × Bool)) × (List (Str × Int)))) : (List (Str × Int)) := v_st_5.2.2.2
def m_law_rounds_14 (v_rows_here : (List (Str × Str × Str × (List Str)))) (v_st : ((List (Str × Bool)))) (v_ranks : (List (Str × Int))) (v_fresh : (List Str)) : (List (Str × Int)) := (wloop (m_law_rounds_12 v_rows_here) (m_law_rounds_11 v_rows_here) (fun y => y) (m_law_rounds_13) wmost ((0 : Int), v_fresh, v_st, v_ranks))
def k_law_rounds_14 (v_rows_here : (List (Str × Str × Str × (List Str)))) (v_st : ((List (Str × Bool)))) (v_ranks : (List (Str × Int))) (v_fresh : (List Str)) : Prop := (WAll (k_law_rounds_12 v_rows_here) (fun _ => True) (m_law_rounds_12 v_rows_here) (m_law_rounds_11 v_rows_here) wmost ((0 : Int), v_fresh, v_st, v_ranks))
def m_law_rounds_15 (v_rows_here : (List (Str × Str × Str × (List Str)))) (v_st : ((List (Str × Bool)))) (v_ranks : (List (Str × Int))) : (List (Str × Int)) := (m_law_rounds_14 v_rows_here v_st v_ranks ([(Str.ofString "")]))
def k_law_rounds_15 (v_rows_here : (List (Str × Str × Str × (List Str)))) (v_st : ((List (Str × Bool)))) (v_ranks : (List (Str × Int))) : Prop := (k_law_rounds_14 v_rows_here v_st v_ranks ([(Str.ofString "")]))
def m_law_rounds_16 (v_rows_here : (List (Str × Str × Str × (List Str)))) (v_st : ((List (Str × Bool)))) : (List (Str × Int)) := (m_law_rounds_15 v_rows_here v_st [])
def k_law_rounds_16 (v_rows_here : (List (Str × Str × Str × (List Str)))) (v_st : ((List (Str × Bool)))) : Prop := (k_law_rounds_15 v_rows_here v_st [])
def m_law_rounds_17 (v_rows_here : (List (Str × Str × Str × (List Str)))) (v_known : (List Str)) (v_there : (List (Str × Bool))) : (List (Str × Int)) := (loop (m_law_rounds_1) (fun y => y) (m_law_rounds_16 v_rows_here) v_known v_there)
def k_law_rounds_17 (v_rows_here : (List (Str × Str × Str × (List Str)))) (v_known : (List Str)) (v_there : (List (Str × Bool))) : Prop := (LoopAll (k_law_rounds_1) (k_law_rounds_16 v_rows_here) (m_law_rounds_1) v_known v_there)
def m_law_rounds (v_rows_here : (List (Str × Str × Str × (List Str)))) (v_known : (List Str)) : (List (Str × Int)) := (m_law_rounds_17 v_rows_here v_known [])
def k_law_rounds (v_rows_here : (List (Str × Str × Str × (List Str)))) (v_known : (List Str)) : Prop := (k_law_rounds_17 v_rows_here v_known [])
abbrev s_law_rounds : Stmt := top 25
theorem sc_law_rounds : FnScope ["_law_rows_here", "_law_known", "_law_there", "_law_statement", "_law_ranks", "_law_rank", "_law_fresh", "_law_head", "_law_sort", "_law_label", "_law_body", "_law_q"] ["_law_rows_here", "_law_known"] (defScope s_law_rounds) := ⟨rfl, rfl, rfl, by decide +kernel, rfl, by decide +kernel, by decide +kernel⟩
def r_law_rounds : List Dt → Sum Cell Xc → Prop := fun ds a => ∃ (v_rows_here : (List (Str × Str × Str × (List Str)))) (v_known : (List Str)), k_law_rounds v_rows_here v_known ∧ ds = [(e5_list v_rows_here), (e2_list v_known)] ∧ a = .inl (.od (encK Sum.inr Dt.int (m_law_rounds v_rows_here v_known)))
section
variable {P : Program} {w : World} {K : PySem.W.Frag} {mg : Str → Option Value} {base : Heap}
theorem run_law_rounds (T : Txt K mg)  {f : Addr} {cdv : Value} {A : Around} {outer : List PySem.Env} {s : Shared} {H : Hp} {E : XK} (hr : Room 0 (A.deeper (PyProof.Rows.envOfC "_law_rounds" (defScope s_law_rounds) s.heap.objs.size f cdv))) (v_rows_here : (List (Str × Str × Str × (List Str)))) (v_known : (List Str)) (hk : k_law_rounds v_rows_here v_known) :
    Run (cxOf (L2.CX P w) P w K mg base ["_law_rows_here", "_law_known", "_law_there", "_law_statement", "_law_ranks", "_law_rank", "_law_fresh", "_law_head", "_law_sort", "_law_label", "_law_body", "_law_q"] "_law_rounds" (defScope s_law_rounds) f cdv A outer s H E) K (wE E) sv0 (defBody s_law_rounds) (start0 ["_law_rows_here", "_law_known", "_law_there", "_law_statement", "_law_ranks", "_law_rank", "_law_fresh", "_law_head", "_law_sort", "_law_label", "_law_body", "_law_q"] [(e5_list v_rows_here), (e2_list v_known)]) (.rt (.od (encK Sum.inr Dt.int (m_law_rounds v_rows_here v_known))) none) := by
  have h29 := hk
  refine run_asgE (i := 2) [] (fun v_there => .od (encK Sum.inr Dt.bl v_there)) (fun _ => _) (fun v_there => [Zf (e5_list v_rows_here), Zf (e2_list v_known), some (.od (encK Sum.inr Dt.bl v_there)), none, none, none, none, none, none, none, none, none]) (fun v_there => .rt (.od (encK Sum.inr Dt.int (m_law_rounds_17 v_rows_here v_known v_there))) none) (k_law_rounds_17 v_rows_here v_known) (EN.ev en_dic0) h29 sc_law_rounds.nd (fun _ => rfl) (fun v_there hk => ?_)
  have h28 := hk
  refine run_forQ (js := [3]) (P := (k_law_rounds_1)) (Q := (k_law_rounds_16 v_rows_here)) (s0 := v_there) Dt.str (fun v_st : ((List (Str × Bool))) => [Zf (e5_list v_rows_here), Zf (e2_list v_known), some (.od (encK Sum.inr Dt.bl v_st)), none, none, none, none, none, none, none, none, none]) (fun (v_st : ((List (Str × Bool)))) (v_it : Str) => [Zf (e5_list v_rows_here), Zf (e2_list v_known), some (.od (encK Sum.inr Dt.bl v_st)), Zf (Dt.str v_it), none, none, none, none, none, none, none, none]) (fun x : (List (Str × Int)) => .rt (.od (encK Sum.inr Dt.int x)) none) (m_law_rounds_1) (fun y => y) (m_law_rounds_16 v_rows_here) (passes_of rfl) rfl (pg_name (i := 3) sc_law_rounds.nd rfl (by first | exact Or.inl rfl | exact Or.inr rfl)) rfl (fun _ => trivial) (src_list (fun _ => rfl) (xv 1 rfl)) (.keep (.keep (.keep (.keep (.keep (.keep (.keep (.keep (.keep (.keep (.keep (.keep .nil)))))))))))) (fun _ _ => (bd_name (Nat.blt_eq.mp rfl))) h28 (fun v_st v_it hm hk => ?_) (fun v_st hk => ?_)
  · have h1 := hk
    refine run_setD (g := Sum.inr) (i := 2) (π := []) (kvs := v_st) (k := v_it) (a := true) (G' := [Zf (e5_list v_rows_here), Zf (e2_list v_known), some (.od (encK Sum.inr Dt.bl (puts v_st v_it true))), Zf (Dt.str v_it), none, none, none, none, none, none, none, none]) Dt.bl (fun _ _ h => Sum.inr.inj h) (keyS _) (units_of hr) (pp 2 rfl) rfl ex_bl (xv 3 rfl) h1 rfl ?_
    exact run_end (.keep (.keep (.keep (.drop (.keep (.keep (.keep (.keep (.keep (.keep (.keep (.keep .nil))))))))))))
  · have h27 := hk
    refine run_asgE (i := 4) [] (fun v_ranks => .od (encK Sum.inr Dt.int v_ranks)) (fun _ => _) (fun v_ranks => [Zf (e5_list v_rows_here), Zf (e2_list v_known), some (.od (encK Sum.inr Dt.bl v_st)), none, some (.od (encK Sum.inr Dt.int v_ranks)), none, none, none, none, none, none, none]) (fun v_ranks => .rt (.od (encK Sum.inr Dt.int (m_law_rounds_15 v_rows_here v_st v_ranks))) none) (k_law_rounds_15 v_rows_here v_st) (EN.ev en_dic0) h27 sc_law_rounds.nd (fun _ => rfl) (fun v_ranks hk => ?_)
    have h26 := hk
    refine run_asgQ (i := 5) (Gk := [Zf (e5_list v_rows_here), Zf (e2_list v_known), some (.od (encK Sum.inr Dt.bl v_st)), none, some (.od (encK Sum.inr Dt.int v_ranks)), Zf (Dt.int (0 : Int)), none, none, none, none, none, none]) (EX.ev ex_int) sc_law_rounds.nd rfl ?_
    have hk := h26
    have h25 := hk
    refine run_asgE (i := 6) [(Str.ofString "")] (fun v_fresh => .ol (List.map Dt.str v_fresh)) (fun _ => _) (fun v_fresh => [Zf (e5_list v_rows_here), Zf (e2_list v_known), some (.od (encK Sum.inr Dt.bl v_st)), none, some (.od (encK Sum.inr Dt.int v_ranks)), Zf (Dt.int (0 : Int)), some (.ol (List.map Dt.str v_fresh)), none, none, none, none, none]) (fun v_fresh => .rt (.od (encK Sum.inr Dt.int (m_law_rounds_14 v_rows_here v_st v_ranks v_fresh))) none) (k_law_rounds_14 v_rows_here v_st v_ranks) (EN.ev (en_lst (ea_cons (ex_str (h := by decide +kernel)) ea_nil) (Nat.le_of_ble_eq_true rfl))) h25 sc_law_rounds.nd (fun _ => rfl) (fun v_fresh hk => ?_)
    refine run_freezeQ (i := 6) (π := []) (G' := [Zf (e5_list v_rows_here), Zf (e2_list v_known), some (.od (encK Sum.inr Dt.bl v_st)), none, some (.od (encK Sum.inr Dt.int v_ranks)), Zf (Dt.int (0 : Int)), Zf (e2_list v_fresh), none, none, none, none, none]) rfl rfl rfl ?_
    have h24 := hk
    refine run_whileQ (P := (k_law_rounds_12 v_rows_here)) (Q := (fun _ => True)) (test := m_law_rounds_12 v_rows_here) (step := m_law_rounds_11 v_rows_here) (io := (fun y => y)) (k := m_law_rounds_13) (s0 := ((0 : Int), v_fresh, v_st, v_ranks)) (fun v_st_5 : (Int × (List Str) × (List (Str × Bool)) × (List (Str × Int))) => [Zf (e5_list v_rows_here), Zf (e2_list v_known), some (.od (encK Sum.inr Dt.bl v_st_5.2.2.1)), none, some (.od (encK Sum.inr Dt.int v_st_5.2.2.2)), Zf (Dt.int v_st_5.1), Zf (e2_list v_st_5.2.1), none, none, none, none, none]) (fun x : (List (Str × Int)) => .rt (.od (encK Sum.inr Dt.int x)) none) (passes_of rfl) (fun _ => trivial) (.keep (.keep (.keep (.keep (.keep (.keep (.keep (.keep (.keep (.keep (.keep (.keep .nil)))))))))))) h24 (fun v_st_5 hk => ?_) (fun v_st_5 hk ht => ?_) (fun v_st_5 _ => ?_)
    · have w0 := hk
      exact (eb_cmp (says_neD (fun _ => units_of hr) (fun _ => rfl) (EqT.d (f := e2_list) (eqt_lst eqt_str) (by decide) v_st_5.2.1 [])) (xv 6 rfl) (EN.frz (en_lst ea_nil (Nat.le_of_ble_eq_true rfl)) rfl))
    · have w0 := hk
      have hk := w0 ht
      have h23 := hk
      refine run_augI (i := 5) (a := v_st_5.1) (b := (1 : Int)) (Gk := [Zf (e5_list v_rows_here), Zf (e2_list v_known), some (.od (encK Sum.inr Dt.bl v_st_5.2.2.1)), none, some (.od (encK Sum.inr Dt.int v_st_5.2.2.2)), Zf (Dt.int (v_st_5.1 + (1 : Int))), Zf (e2_list v_st_5.2.1), none, none, none, none, none]) rfl ex_int sc_law_rounds.nd rfl ?_
      have hk := h23
      have h22 := hk
      refine run_asgE (i := 6) [] (fun v_fresh_2 => .ol (List.map Dt.str v_fresh_2)) (fun _ => _) (fun v_fresh_2 => [Zf (e5_list v_rows_here), Zf (e2_list v_known), some (.od (encK Sum.inr Dt.bl v_st_5.2.2.1)), none, some (.od (encK Sum.inr Dt.int v_st_5.2.2.2)), Zf (Dt.int (v_st_5.1 + (1 : Int))), some (.ol (List.map Dt.str v_fresh_2)), none, none, none, none, none]) (fun v_fresh_2 => (Step.out (fun v_st_5 : (Int × (List Str) × (List (Str × Bool)) × (List (Str × Int))) => [Zf (e5_list v_rows_here), Zf (e2_list v_known), some (.od (encK Sum.inr Dt.bl v_st_5.2.2.1)), none, some (.od (encK Sum.inr Dt.int v_st_5.2.2.2)), Zf (Dt.int v_st_5.1), Zf (e2_list v_st_5.2.1), none, none, none, none, none]) (fun x : (List (Str × Int)) => .rt (.od (encK Sum.inr Dt.int x)) none) (m_law_rounds_10 v_rows_here v_st_5 v_fresh_2))) (k_law_rounds_10 v_rows_here v_st_5) (EN.ev (en_lst ea_nil (Nat.le_of_ble_eq_true rfl))) h22 sc_law_rounds.nd (fun _ => rfl) (fun v_fresh_2 hk => ?_)
      have h21 := hk
      refine run_forQ (js := [8, 9, 7, 10]) (P := (k_law_rounds_6 v_st_5)) (Q := (k_law_rounds_9 v_st_5)) (s0 := v_fresh_2) e1_tup (fun v_st_6 : ((List Str)) => [Zf (e5_list v_rows_here), Zf (e2_list v_known), some (.od (encK Sum.inr Dt.bl v_st_5.2.2.1)), none, some (.od (encK Sum.inr Dt.int v_st_5.2.2.2)), Zf (Dt.int (v_st_5.1 + (1 : Int))), some (.ol (List.map Dt.str v_st_6)), none, none, none, none, none]) (fun (v_st_6 : ((List Str))) (v_it_3 : (Str × Str × Str × (List Str))) => [Zf (e5_list v_rows_here), Zf (e2_list v_known), some (.od (encK Sum.inr Dt.bl v_st_5.2.2.1)), none, some (.od (encK Sum.inr Dt.int v_st_5.2.2.2)), Zf (Dt.int (v_st_5.1 + (1 : Int))), some (.ol (List.map Dt.str v_st_6)), Zf (Dt.str v_it_3.2.2.1), Zf (Dt.str v_it_3.1), Zf (Dt.str v_it_3.2.1), Zf (e0_vtup v_it_3.2.2.2), none]) (fun x : (Step (Int × (List Str) × (List (Str × Bool)) × (List (Str × Int))) (List (Str × Int))) => x.out (fun v_st_5 : (Int × (List Str) × (List (Str × Bool)) × (List (Str × Int))) => [Zf (e5_list v_rows_here), Zf (e2_list v_known), some (.od (encK Sum.inr Dt.bl v_st_5.2.2.1)), none, some (.od (encK Sum.inr Dt.int v_st_5.2.2.2)), Zf (Dt.int v_st_5.1), Zf (e2_list v_st_5.2.1), none, none, none, none, none]) (fun x : (List (Str × Int)) => .rt (.od (encK Sum.inr Dt.int x)) none)) (m_law_rounds_6 v_st_5) (fun y => Step.fin y) (m_law_rounds_9 v_st_5) (passes_of rfl) rfl (pg_tup (n := 4) rfl (pgs_cons (pg_name (i := 8) sc_law_rounds.nd rfl (by first | exact Or.inl rfl | exact Or.inr rfl)) (pgs_cons (pg_name (i := 9) sc_law_rounds.nd rfl (by first | exact Or.inl rfl | exact Or.inr rfl)) (pgs_cons (pg_name (i := 7) sc_law_rounds.nd rfl (by first | exact Or.inl rfl | exact Or.inr rfl)) (pgs_cons (pg_name (i := 10) sc_law_rounds.nd rfl (by first | exact Or.inl rfl | exact Or.inr rfl)) pgs_nil))))) rfl (fun _ => trivial) (src_list (fun _ => rfl) (xv 0 rfl)) (.keep (.keep (.keep (.keep (.keep (.keep (.keep (.keep (.keep (.keep (.keep (.keep .nil)))))))))))) (fun _ _ => (bd_tup (bdl_cons (bd_name (Nat.blt_eq.mp rfl)) (bdl_cons (bd_name (Nat.blt_eq.mp rfl)) (bdl_cons (bd_name (Nat.blt_eq.mp rfl)) (bdl_cons (bd_name (Nat.blt_eq.mp rfl)) bdl_nil)))) rfl)) h21 (fun v_st_6 v_it_3 hm hk => ?_) (fun v_st_6 hk => ?_)
      · obtain ⟨h13, h14⟩ := hk
        refine run_ifP (s1 := (v_st_6 ++ [v_it_3.2.2.1])) (s2 := v_st_6) (fun v_st_7 : ((List Str)) => [Zf (e5_list v_rows_here), Zf (e2_list v_known), some (.od (encK Sum.inr Dt.bl v_st_5.2.2.1)), none, some (.od (encK Sum.inr Dt.int v_st_5.2.2.2)), Zf (Dt.int (v_st_5.1 + (1 : Int))), some (.ol (List.map Dt.str v_st_7)), Zf (Dt.str v_it_3.2.2.1), Zf (Dt.str v_it_3.1), Zf (Dt.str v_it_3.2.1), Zf (e0_vtup v_it_3.2.2.2), none]) (fun v_st_7 => (Step.out (fun v_st_6 : ((List Str)) => [Zf (e5_list v_rows_here), Zf (e2_list v_known), some (.od (encK Sum.inr Dt.bl v_st_5.2.2.1)), none, some (.od (encK Sum.inr Dt.int v_st_5.2.2.2)), Zf (Dt.int (v_st_5.1 + (1 : Int))), some (.ol (List.map Dt.str v_st_6)), none, none, none, none, none]) (fun x : (List (Str × Int)) => .rt (.od (encK Sum.inr Dt.int x)) none) (m_law_rounds_5 v_st_7))) (fun _ => True) (eb_w (ebw_and (xb_inS (fun _ => rfl) (xv 8 rfl) (EX.esT (ex_tup (ea_cons (ex_str (h := by decide +kernel)) (ea_cons (ex_str (h := by decide +kernel)) ea_nil)) (Nat.le_of_ble_eq_true rfl)))) (fun hb15 => (ebw_and (xb_nid (g := Sum.inr) Dt.bl (fun _ _ h => Sum.inr.inj h) (keyS _) (fun _ => units_of hr) (xv 7 rfl) (EP.ed (pp 2 rfl) rfl)) (fun hb16 => (ebw_and1 (eb_cmp (says_eqD (fun _ => units_of hr) (fun _ => rfl) (EqT.d (f := e2_list) (eqt_lst eqt_str) (by decide) (lcF (fun v_item_3 : Str => (!hasK v_st_5.2.2.1 v_item_3)) (fun v_item_3 : Str => v_item_3) v_it_3.2.2.2) [])) (EN.frz (EN.isL (x_lc (own := [("_law_q", 11)]) Dt.str (fun v_item_3 : Str => [Zf (e5_list v_rows_here), Zf (e2_list v_known), some (.od (encK Sum.inr Dt.bl v_st_5.2.2.1)), none, some (.od (encK Sum.inr Dt.int v_st_5.2.2.2)), Zf (Dt.int (v_st_5.1 + (1 : Int))), some (.ol (List.map Dt.str v_st_6)), Zf (Dt.str v_it_3.2.2.1), Zf (Dt.str v_it_3.1), Zf (Dt.str v_it_3.2.1), Zf (e0_vtup v_it_3.2.2.2), Zf (Dt.str v_item_3)]) (fun v_item_3 : Str => (!hasK v_st_5.2.2.1 v_item_3)) (fun v_item_3 : Str => (Dt.str v_item_3)) (fun _ => rfl) (fun _ => sc_law_rounds.nd) (src_tup (fun _ => rfl) (xv 10 rfl)) ((h13 hb15) hb16) (fun _ => blkOk_by (by decide +kernel : blkC ["_law_rows_here", "_law_known", "_law_there", "_law_statement", "_law_ranks", "_law_rank", "_law_fresh", "_law_head", "_law_sort", "_law_label", "_law_body", "_law_q"] (defScope s_law_rounds) _ [("_law_q", 11)] = true)) (by decide) (fun _ => (pg_name (i := 11) sc_law_rounds.nd rfl (by first | exact Or.inl rfl | exact Or.inr rfl))) (fun _ => (bd_name (Nat.blt_eq.mp rfl))) (tt_of fun v_item_3 hm => (xb_nid (g := Sum.inr) Dt.bl (fun _ _ h => Sum.inr.inj h) (keyS _) (fun _ => units_of hr) (xv 11 rfl) (EP.ed (pp 2 rfl) rfl))) (fun v_item_3 hm hp => (xv 11 rfl))) (lcF_enc Dt.str (fun v_item_3 : Str => (!hasK v_st_5.2.2.1 v_item_3)) (fun v_item_3 : Str => v_item_3) v_it_3.2.2.2)) rfl) (EN.frz (en_lst ea_nil (Nat.le_of_ble_eq_true rfl)) rfl)))))))) trivial (fun hb => ?_) (fun hb => ?_) (fun v_st_7 _ => ?_)
        · have hk := h14 hb
          have h12 := hk
          refine run_append (i := 6) (π := []) (xs := v_st_6) (y := v_it_3.2.2.1) (G' := [Zf (e5_list v_rows_here), Zf (e2_list v_known), some (.od (encK Sum.inr Dt.bl v_st_5.2.2.1)), none, some (.od (encK Sum.inr Dt.int v_st_5.2.2.2)), Zf (Dt.int (v_st_5.1 + (1 : Int))), some (.ol (List.map Dt.str (v_st_6 ++ [v_it_3.2.2.1]))), Zf (Dt.str v_it_3.2.2.1), Zf (Dt.str v_it_3.1), Zf (Dt.str v_it_3.2.1), Zf (e0_vtup v_it_3.2.2.2), none]) Dt.str rfl (pp 6 rfl) rfl (xv 7 rfl) h12 rfl ?_
          exact run_end (.keep (.keep (.keep (.keep (.keep (.keep (.keep (.keep (.keep (.keep (.keep (.keep .nil))))))))))))
        · exact run_end (.keep (.keep (.keep (.keep (.keep (.keep (.keep (.keep (.keep (.keep (.keep (.keep .nil))))))))))))
        · exact run_end (.keep (.keep (.keep (.keep (.keep (.keep (.keep (.drop (.drop (.drop (.drop (.keep .nil))))))))))))
      · refine run_freezeQ (i := 6) (π := []) (G' := [Zf (e5_list v_rows_here), Zf (e2_list v_known), some (.od (encK Sum.inr Dt.bl v_st_5.2.2.1)), none, some (.od (encK Sum.inr Dt.int v_st_5.2.2.2)), Zf (Dt.int (v_st_5.1 + (1 : Int))), Zf (e2_list v_st_6), none, none, none, none, none]) rfl rfl rfl ?_
        have h20 := hk
        refine run_forQ (js := [7]) (P := (k_law_rounds_7 v_st_5)) (Q := (fun _ => True)) (s0 := (v_st_5.2.2.1, v_st_5.2.2.2)) Dt.str (fun v_st_8 : ((List (Str × Bool)) × (List (Str × Int))) => [Zf (e5_list v_rows_here), Zf (e2_list v_known), some (.od (encK Sum.inr Dt.bl v_st_8.1)), none, some (.od (encK Sum.inr Dt.int v_st_8.2)), Zf (Dt.int (v_st_5.1 + (1 : Int))), Zf (e2_list v_st_6), none, none, none, none, none]) (fun (v_st_8 : ((List (Str × Bool)) × (List (Str × Int)))) (v_it_4 : Str) => [Zf (e5_list v_rows_here), Zf (e2_list v_known), some (.od (encK Sum.inr Dt.bl v_st_8.1)), none, some (.od (encK Sum.inr Dt.int v_st_8.2)), Zf (Dt.int (v_st_5.1 + (1 : Int))), Zf (e2_list v_st_6), Zf (Dt.str v_it_4), none, none, none, none]) (fun x : (Step (Int × (List Str) × (List (Str × Bool)) × (List (Str × Int))) (List (Str × Int))) => x.out (fun v_st_5 : (Int × (List Str) × (List (Str × Bool)) × (List (Str × Int))) => [Zf (e5_list v_rows_here), Zf (e2_list v_known), some (.od (encK Sum.inr Dt.bl v_st_5.2.2.1)), none, some (.od (encK Sum.inr Dt.int v_st_5.2.2.2)), Zf (Dt.int v_st_5.1), Zf (e2_list v_st_5.2.1), none, none, none, none, none]) (fun x : (List (Str × Int)) => .rt (.od (encK Sum.inr Dt.int x)) none)) (m_law_rounds_7 v_st_5) (fun y => Step.fin y) (m_law_rounds_8 v_st_5 v_st_6) (passes_of rfl) rfl (pg_name (i := 7) sc_law_rounds.nd rfl (by first | exact Or.inl rfl | exact Or.inr rfl)) rfl (fun _ => trivial) (src_list (fun _ => rfl) (xv 6 rfl)) (.keep (.keep (.keep (.keep (.keep (.keep (.keep (.keep (.keep (.keep (.keep (.keep .nil)))))))))))) (fun _ _ => (bd_name (Nat.blt_eq.mp rfl))) h20 (fun v_st_8 v_it_4 hm hk => ?_) (fun v_st_8 _ => ?_)
        · obtain ⟨h18, h19⟩ := hk
          refine run_setD (g := Sum.inr) (i := 2) (π := []) (kvs := v_st_8.1) (k := v_it_4) (a := true) (G' := [Zf (e5_list v_rows_here), Zf (e2_list v_known), some (.od (encK Sum.inr Dt.bl (puts v_st_8.1 v_it_4 true))), none, some (.od (encK Sum.inr Dt.int v_st_8.2)), Zf (Dt.int (v_st_5.1 + (1 : Int))), Zf (e2_list v_st_6), Zf (Dt.str v_it_4), none, none, none, none]) Dt.bl (fun _ _ h => Sum.inr.inj h) (keyS _) (units_of hr) (pp 2 rfl) rfl ex_bl (xv 7 rfl) h18 rfl ?_
          have hk := h19
          have h17 := hk
          refine run_setD (g := Sum.inr) (i := 4) (π := []) (kvs := v_st_8.2) (k := v_it_4) (a := (v_st_5.1 + (1 : Int))) (G' := [Zf (e5_list v_rows_here), Zf (e2_list v_known), some (.od (encK Sum.inr Dt.bl (puts v_st_8.1 v_it_4 true))), none, some (.od (encK Sum.inr Dt.int (puts v_st_8.2 v_it_4 (v_st_5.1 + (1 : Int))))), Zf (Dt.int (v_st_5.1 + (1 : Int))), Zf (e2_list v_st_6), Zf (Dt.str v_it_4), none, none, none, none]) Dt.int (fun _ _ h => Sum.inr.inj h) (keyS _) (units_of hr) (pp 4 rfl) rfl (xv 5 rfl) (xv 7 rfl) h17 rfl ?_
          exact run_end (.keep (.keep (.keep (.keep (.keep (.keep (.keep (.drop (.keep (.keep (.keep (.keep .nil))))))))))))
        · exact run_end (.keep (.keep (.keep (.keep (.keep (.keep (.keep (.keep (.keep (.keep (.keep (.keep .nil))))))))))))
    · exact run_retV (i := 4) rfl rfl (by first | exact Or.inl rfl | exact Or.inr (Or.inl rfl))
theorem ok_law_rounds (T : Txt K mg)  {f : Addr} {fd : FuncData} (F : FunD K "_law_rounds" "_law_rounds" (defArgs s_law_rounds) (defBody s_law_rounds) (defScope s_law_rounds) [] [] f fd) : FnOk P w K mg base (L2.CX P w) 1 f fd ["_law_rows_here", "_law_known"] (spR K 2 r_law_rounds) :=
  fnOk_mk F sc_law_rounds (fun cdv A outer s H E ds a hr hR hn => by
    obtain ⟨v_rows_here, v_known, hk, rfl, rfl⟩ := hR
    exact ⟨_, .rt _, run_law_rounds T  hr v_rows_here v_known hk⟩)
theorem mk_law_rounds (T : Txt K mg)  {f : Addr} {fd : FuncData} (F : FunD K "_law_rounds" "_law_rounds" (defArgs s_law_rounds) (defBody s_law_rounds) (defScope s_law_rounds) [] [] f fd) {x : Str} (gf : mg x = some (.ref f)) : Callee P w K mg base x 1 2 r_law_rounds :=
  ⟨f, fd, ["_law_rows_here", "_law_known"], ok_law_rounds T  F, gf, F.kp, FunD.bindsN F fun _ _ _ _ _ _ us hl => match us, hl with | [_, _], _ => rfl⟩
end
/-! Rule___init___t -/
def m_Rule___init___t_1 (v_label_1 : Str) (v_head_1 : Str) (v_body_1 : (List Str)) : (Str × Str × (List Str)) := (v_label_1, v_head_1, v_body_1)
def m_Rule___init___t_2 (v_body : (List Str)) (v_label_1 : Str) (v_head_1 : Str) : (Str × Str × (List Str)) := (m_Rule___init___t_1 v_label_1 v_head_1 v_body)
def m_Rule___init___t_3 (v_head : Str) (v_body : (List Str)) (v_label_1 : Str) : (Str × Str × (List Str)) := (m_Rule___init___t_2 v_body v_label_1 v_head)
def mi_Rule___init___t (v_label : Str) (v_head : Str) (v_body : (List Str)) : (Str × Str × (List Str)) := (m_Rule___init___t_3 v_head v_body v_label)
abbrev s_Rule___init___t : Stmt := sub (top 8) 0
theorem sc_Rule___init___t : FnScope ["self", "label", "head", "body"] ["self", "label", "head", "body"] (defScope s_Rule___init___t) := ⟨rfl, rfl, rfl, by decide +kernel, rfl, by decide +kernel, by decide +kernel⟩
def r_Rule___init___t : List Cell → Sum Cell Xc → List Cell → Prop := fun cs a outs => ∃ (v_k : Nat) (v_label : Str) (v_head : Str) (v_body : (List Str)), cs = [.ob (cn_Rule v_k) [], .fz (Dt.str v_label), .fz (Dt.str v_head), .fz (e0_vtup v_body)] ∧ a = .inl (.fz .non) ∧ outs = [.ob (cn_Rule v_k) [("label", .fz (Dt.str (mi_Rule___init___t v_label v_head v_body).1)), ("head", .fz (Dt.str (mi_Rule___init___t v_label v_head v_body).2.1)), ("body", .fz (e0_vtup (mi_Rule___init___t v_label v_head v_body).2.2))], .fz (Dt.str v_label), .fz (Dt.str v_head), .fz (e0_vtup v_body)]
section
variable {P : Program} {w : World} {K : PySem.W.Frag} {mg : Str → Option Value} {base : Heap}
theorem run_Rule___init___t (T : Txt K mg)  {f : Addr} {cdv : Value} {A : Around} {outer : List PySem.Env} {s : Shared} {H : Hp} {E : XK} (hr : Room 0 (A.deeper (PyProof.Rows.envOfC "Rule.__init__" (defScope s_Rule___init___t) s.heap.objs.size f cdv))) (v_k : Nat) (v_label : Str) (v_head : Str) (v_body : (List Str)) (vl : Nat → V) :
    Run (cxOf (L2.CX P w) P w K mg base ["self", "label", "head", "body"] "Rule.__init__" (defScope s_Rule___init___t) f cdv A outer s H E) K (wE E) ⟨[0], vl⟩ (defBody s_Rule___init___t) (startC ["self", "label", "head", "body"] [.ob (cn_Rule v_k) [], .fz (Dt.str v_label), .fz (Dt.str v_head), .fz (e0_vtup v_body)]) (.nx [some (.ob (cn_Rule v_k) [("label", .fz (Dt.str (mi_Rule___init___t v_label v_head v_body).1)), ("head", .fz (Dt.str (mi_Rule___init___t v_label v_head v_body).2.1)), ("body", .fz (e0_vtup (mi_Rule___init___t v_label v_head v_body).2.2))]), none, none, none]) := by
  refine run_setF (i := 0) (π := []) (fun _ => []) v_label (fun v_label_1 => .fz (Dt.str v_label_1)) (fun _ => _) (fun v_label_1 => [some (.ob (cn_Rule v_k) [("label", .fz (Dt.str v_label_1))]), Zf (Dt.str v_label), Zf (Dt.str v_head), Zf (e0_vtup v_body)]) (fun v_label_1 => .nx [some (.ob (cn_Rule v_k) [("label", .fz (Dt.str (m_Rule___init___t_3 v_head v_body v_label_1).1)), ("head", .fz (Dt.str (m_Rule___init___t_3 v_head v_body v_label_1).2.1)), ("body", .fz (e0_vtup (m_Rule___init___t_3 v_head v_body v_label_1).2.2))]), none, none, none]) (fun _ => True) rfl (T.cl_Rule v_k) (T.na_Rule_label v_k) (EX.ev (xv 1 rfl)) trivial (pp 0 rfl) rfl (fun _ => rfl) rfl (fun v_label_1 _ => ?_)
  refine run_setF (i := 0) (π := []) (fun _ => [("label", .fz (Dt.str v_label_1))]) v_head (fun v_head_1 => .fz (Dt.str v_head_1)) (fun _ => _) (fun v_head_1 => [some (.ob (cn_Rule v_k) [("label", .fz (Dt.str v_label_1)), ("head", .fz (Dt.str v_head_1))]), Zf (Dt.str v_label), Zf (Dt.str v_head), Zf (e0_vtup v_body)]) (fun v_head_1 => .nx [some (.ob (cn_Rule v_k) [("label", .fz (Dt.str (m_Rule___init___t_2 v_body v_label_1 v_head_1).1)), ("head", .fz (Dt.str (m_Rule___init___t_2 v_body v_label_1 v_head_1).2.1)), ("body", .fz (e0_vtup (m_Rule___init___t_2 v_body v_label_1 v_head_1).2.2))]), none, none, none]) (fun _ => True) rfl (T.cl_Rule v_k) (T.na_Rule_head v_k) (EX.ev (xv 2 rfl)) trivial (pp 0 rfl) rfl (fun _ => rfl) rfl (fun v_head_1 _ => ?_)
  refine run_setF (i := 0) (π := []) (fun _ => [("label", .fz (Dt.str v_label_1)), ("head", .fz (Dt.str v_head_1))]) v_body (fun v_body_1 => .fz (e0_vtup v_body_1)) (fun _ => _) (fun v_body_1 => [some (.ob (cn_Rule v_k) [("label", .fz (Dt.str v_label_1)), ("head", .fz (Dt.str v_head_1)), ("body", .fz (e0_vtup v_body_1))]), Zf (Dt.str v_label), Zf (Dt.str v_head), Zf (e0_vtup v_body)]) (fun v_body_1 => .nx [some (.ob (cn_Rule v_k) [("label", .fz (Dt.str (m_Rule___init___t_1 v_label_1 v_head_1 v_body_1).1)), ("head", .fz (Dt.str (m_Rule___init___t_1 v_label_1 v_head_1 v_body_1).2.1)), ("body", .fz (e0_vtup (m_Rule___init___t_1 v_label_1 v_head_1 v_body_1).2.2))]), none, none, none]) (fun _ => True) rfl (T.cl_Rule v_k) (T.na_Rule_body v_k) (EX.ev (ex_tupT (fun _ => rfl) (xv 3 rfl) (fun _ => rfl) (fun _ => T.n_tuple))) trivial (pp 0 rfl) rfl (fun _ => rfl) rfl (fun v_body_1 _ => ?_)
  exact run_end (.keep (.drop (.drop (.drop .nil))))
theorem ok_Rule___init___t (T : Txt K mg)  {f : Addr} {fd : FuncData} (F : FunD K "__init__" "Rule.__init__" (defArgs s_Rule___init___t) (defBody s_Rule___init___t) (defScope s_Rule___init___t) [] [] f fd) : FnOk P w K mg base (L2.CX P w) 1 f fd ["self", "label", "head", "body"] (spB K 4 r_Rule___init___t) :=
  fnOk_mkB F sc_Rule___init___t (fun cdv A outer s H E cs a outs hr hR hn => by
    obtain ⟨v_k, v_label, v_head, v_body, rfl, rfl, rfl⟩ := hR
    exact ⟨_, _, .nx _, rfl, rfl, fun vl => run_Rule___init___t T  hr v_k v_label v_head v_body vl⟩)
theorem mk_Rule___init___t (T : Txt K mg)  {C : Str} {fd : FuncData} (F : FunD K "__init__" "Rule.__init__" (defArgs s_Rule___init___t) (defBody s_Rule___init___t) (defScope s_Rule___init___t) [] [] (He.ma K (He.ga K C) "__init__") fd) : CalleeBI P w K mg base C 1 4 r_Rule___init___t :=
  ⟨fd, ["self", "label", "head", "body"], ok_Rule___init___t T  F, FunD.bindsN F fun _ _ _ _ _ _ us hl => match us, hl with | [_, _, _, _], _ => rfl⟩
end
/-! Fact___init__ -/
def m_Fact___init___1  (v_made : (Str × Str × (List Str))) : (Str × Str × (List Str)) := (v_made.1, v_made.2.1, v_made.2.2)
def mi_Fact___init__ (v_head : Str) : (Str × Str × (List Str)) := (m_Fact___init___1 (mi_Rule___init___t (Str.ofString "") v_head []))
abbrev s_Fact___init__ : Stmt := sub (top 9) 0
theorem sc_Fact___init__ : FnScope ["self", "head"] ["self", "head"] (defScope s_Fact___init__) := ⟨rfl, rfl, rfl, by decide +kernel, rfl, by decide +kernel, by decide +kernel⟩
def r_Fact___init__ : List Cell → Sum Cell Xc → List Cell → Prop := fun cs a outs => ∃ (v_k : Nat) (v_head : Str), cs = [.ob (cn_Rule v_k) [], .fz (Dt.str v_head)] ∧ a = .inl (.fz .non) ∧ outs = [.ob (cn_Rule v_k) [("label", .fz (Dt.str (mi_Fact___init__ v_head).1)), ("head", .fz (Dt.str (mi_Fact___init__ v_head).2.1)), ("body", .fz (e0_vtup (mi_Fact___init__ v_head).2.2))], .fz (Dt.str v_head)]
section
variable {P : Program} {w : World} {K : PySem.W.Frag} {mg : Str → Option Value} {base : Heap}
theorem run_Fact___init__ (T : Txt K mg) (c_i_Rule_Rule___init___t : CalleeBI P w K mg base "Rule" 1 4 r_Rule___init___t) {f : Addr} {cdv : Value} {A : Around} {outer : List PySem.Env} {s : Shared} {H : Hp} {E : XK} (hr : Room 2 (A.deeper (PyProof.Rows.envOfC "Fact.__init__" (defScope s_Fact___init__) s.heap.objs.size f cdv))) (v_k : Nat) (v_head : Str) (vl : Nat → V) :
    Run (cxOf (L2.CX P w) P w K mg base ["self", "head"] "Fact.__init__" (defScope s_Fact___init__) f cdv A outer s H E) K (wE E) ⟨[0], vl⟩ (defBody s_Fact___init__) (startC ["self", "head"] [.ob (cn_Rule v_k) [], .fz (Dt.str v_head)]) (.nx [some (.ob (cn_Rule v_k) [("label", .fz (Dt.str (mi_Fact___init__ v_head).1)), ("head", .fz (Dt.str (mi_Fact___init__ v_head).2.1)), ("body", .fz (e0_vtup (mi_Fact___init__ v_head).2.2))]), none]) := by
  refine run_dropE (mi_Rule___init___t (Str.ofString "") v_head []) (fun _ => .fz .non) (fun v_made => [some (.ob (cn_Rule v_k) [("label", .fz (Dt.str v_made.1)), ("head", .fz (Dt.str v_made.2.1)), ("body", .fz (e0_vtup v_made.2.2))]), Zf (Dt.str v_head)]) (fun v_made => .nx [some (.ob (cn_Rule v_k) [("label", .fz (Dt.str (m_Fact___init___1 v_made).1)), ("head", .fz (Dt.str (m_Fact___init___1 v_made).2.1)), ("body", .fz (e0_vtup (m_Fact___init___1 v_made).2.2))]), none]) (fun _ => True) (ev_clsm T.su_Rule c_i_Rule_Rule___init___t.ex T.gc_Rule (fun _ => ⟨rfl, rfl, rfl, rfl, rfl⟩) (hr.mono (by decide)) rfl (eab_ow (pp 0 rfl) (eab_fz (ex_str (h := by decide +kernel)) (eab_fz (xv 1 rfl) (eab_fz (ex_tup ea_nil (Nat.le_of_ble_eq_true rfl)) eab_nil)))) ⟨rfl, rfl, trivial⟩ rfl ⟨v_k, (Str.ofString ""), v_head, [], rfl, rfl, rfl⟩ rfl) trivial (fun v_made _ => ?_)
  exact run_end (.keep (.drop .nil))
theorem ok_Fact___init__ (T : Txt K mg) (c_i_Rule_Rule___init___t : CalleeBI P w K mg base "Rule" 1 4 r_Rule___init___t) {f : Addr} {fd : FuncData} (F : FunD K "__init__" "Fact.__init__" (defArgs s_Fact___init__) (defBody s_Fact___init__) (defScope s_Fact___init__) [] [] f fd) : FnOk P w K mg base (L2.CX P w) 3 f fd ["self", "head"] (spB K 2 r_Fact___init__) :=
  fnOk_mkB F sc_Fact___init__ (fun cdv A outer s H E cs a outs hr hR hn => by
    obtain ⟨v_k, v_head, rfl, rfl, rfl⟩ := hR
    exact ⟨_, _, .nx _, rfl, rfl, fun vl => run_Fact___init__ T c_i_Rule_Rule___init___t hr v_k v_head vl⟩)
theorem mk_Fact___init__ (T : Txt K mg) (c_i_Rule_Rule___init___t : CalleeBI P w K mg base "Rule" 1 4 r_Rule___init___t) {C : Str} {fd : FuncData} (F : FunD K "__init__" "Fact.__init__" (defArgs s_Fact___init__) (defBody s_Fact___init__) (defScope s_Fact___init__) [] [] (He.ma K (He.ga K C) "__init__") fd) : CalleeBI P w K mg base C 3 2 r_Fact___init__ :=
  ⟨fd, ["self", "head"], ok_Fact___init__ T c_i_Rule_Rule___init___t F, FunD.bindsN F fun _ _ _ _ _ _ us hl => match us, hl with | [_, _], _ => rfl⟩
end
/-! Rule___init___l -/
def m_Rule___init___l_1 (v_label_1 : Str) (v_head_1 : Str) (v_body_1 : (List Str)) : (Str × Str × (List Str)) := (v_label_1, v_head_1, v_body_1)
def m_Rule___init___l_2 (v_body : (List Str)) (v_label_1 : Str) (v_head_1 : Str) : (Str × Str × (List Str)) := (m_Rule___init___l_1 v_label_1 v_head_1 v_body)
def m_Rule___init___l_3 (v_head : Str) (v_body : (List Str)) (v_label_1 : Str) : (Str × Str × (List Str)) := (m_Rule___init___l_2 v_body v_label_1 v_head)
def mi_Rule___init___l (v_label : Str) (v_head : Str) (v_body : (List Str)) : (Str × Str × (List Str)) := (m_Rule___init___l_3 v_head v_body v_label)
abbrev s_Rule___init___l : Stmt := sub (top 8) 0
theorem sc_Rule___init___l : FnScope ["self", "label", "head", "body"] ["self", "label", "head", "body"] (defScope s_Rule___init___l) := ⟨rfl, rfl, rfl, by decide +kernel, rfl, by decide +kernel, by decide +kernel⟩
def r_Rule___init___l : List Cell → Sum Cell Xc → List Cell → Prop := fun cs a outs => ∃ (v_k : Nat) (v_label : Str) (v_head : Str) (v_body : (List Str)), cs = [.ob (cn_Rule v_k) [], .fz (Dt.str v_label), .fz (Dt.str v_head), .fz (e2_list v_body)] ∧ a = .inl (.fz .non) ∧ outs = [.ob (cn_Rule v_k) [("label", .fz (Dt.str (mi_Rule___init___l v_label v_head v_body).1)), ("head", .fz (Dt.str (mi_Rule___init___l v_label v_head v_body).2.1)), ("body", .fz (e0_vtup (mi_Rule___init___l v_label v_head v_body).2.2))], .fz (Dt.str v_label), .fz (Dt.str v_head), .fz (e2_list v_body)]
section
variable {P : Program} {w : World} {K : PySem.W.Frag} {mg : Str → Option Value} {base : Heap}
theorem run_Rule___init___l (T : Txt K mg)  {f : Addr} {cdv : Value} {A : Around} {outer : List PySem.Env} {s : Shared} {H : Hp} {E : XK} (hr : Room 0 (A.deeper (PyProof.Rows.envOfC "Rule.__init__" (defScope s_Rule___init___l) s.heap.objs.size f cdv))) (v_k : Nat) (v_label : Str) (v_head : Str) (v_body : (List Str)) (vl : Nat → V) :
    Run (cxOf (L2.CX P w) P w K mg base ["self", "label", "head", "body"] "Rule.__init__" (defScope s_Rule___init___l) f cdv A outer s H E) K (wE E) ⟨[0], vl⟩ (defBody s_Rule___init___l) (startC ["self", "label", "head", "body"] [.ob (cn_Rule v_k) [], .fz (Dt.str v_label), .fz (Dt.str v_head), .fz (e2_list v_body)]) (.nx [some (.ob (cn_Rule v_k) [("label", .fz (Dt.str (mi_Rule___init___l v_label v_head v_body).1)), ("head", .fz (Dt.str (mi_Rule___init___l v_label v_head v_body).2.1)), ("body", .fz (e0_vtup (mi_Rule___init___l v_label v_head v_body).2.2))]), none, none, none]) := by
  refine run_setF (i := 0) (π := []) (fun _ => []) v_label (fun v_label_1 => .fz (Dt.str v_label_1)) (fun _ => _) (fun v_label_1 => [some (.ob (cn_Rule v_k) [("label", .fz (Dt.str v_label_1))]), Zf (Dt.str v_label), Zf (Dt.str v_head), Zf (e2_list v_body)]) (fun v_label_1 => .nx [some (.ob (cn_Rule v_k) [("label", .fz (Dt.str (m_Rule___init___l_3 v_head v_body v_label_1).1)), ("head", .fz (Dt.str (m_Rule___init___l_3 v_head v_body v_label_1).2.1)), ("body", .fz (e0_vtup (m_Rule___init___l_3 v_head v_body v_label_1).2.2))]), none, none, none]) (fun _ => True) rfl (T.cl_Rule v_k) (T.na_Rule_label v_k) (EX.ev (xv 1 rfl)) trivial (pp 0 rfl) rfl (fun _ => rfl) rfl (fun v_label_1 _ => ?_)
  refine run_setF (i := 0) (π := []) (fun _ => [("label", .fz (Dt.str v_label_1))]) v_head (fun v_head_1 => .fz (Dt.str v_head_1)) (fun _ => _) (fun v_head_1 => [some (.ob (cn_Rule v_k) [("label", .fz (Dt.str v_label_1)), ("head", .fz (Dt.str v_head_1))]), Zf (Dt.str v_label), Zf (Dt.str v_head), Zf (e2_list v_body)]) (fun v_head_1 => .nx [some (.ob (cn_Rule v_k) [("label", .fz (Dt.str (m_Rule___init___l_2 v_body v_label_1 v_head_1).1)), ("head", .fz (Dt.str (m_Rule___init___l_2 v_body v_label_1 v_head_1).2.1)), ("body", .fz (e0_vtup (m_Rule___init___l_2 v_body v_label_1 v_head_1).2.2))]), none, none, none]) (fun _ => True) rfl (T.cl_Rule v_k) (T.na_Rule_head v_k) (EX.ev (xv 2 rfl)) trivial (pp 0 rfl) rfl (fun _ => rfl) rfl (fun v_head_1 _ => ?_)
  refine run_setF (i := 0) (π := []) (fun _ => [("label", .fz (Dt.str v_label_1)), ("head", .fz (Dt.str v_head_1))]) v_body (fun v_body_1 => .fz (e0_vtup v_body_1)) (fun _ => _) (fun v_body_1 => [some (.ob (cn_Rule v_k) [("label", .fz (Dt.str v_label_1)), ("head", .fz (Dt.str v_head_1)), ("body", .fz (e0_vtup v_body_1))]), Zf (Dt.str v_label), Zf (Dt.str v_head), Zf (e2_list v_body)]) (fun v_body_1 => .nx [some (.ob (cn_Rule v_k) [("label", .fz (Dt.str (m_Rule___init___l_1 v_label_1 v_head_1 v_body_1).1)), ("head", .fz (Dt.str (m_Rule___init___l_1 v_label_1 v_head_1 v_body_1).2.1)), ("body", .fz (e0_vtup (m_Rule___init___l_1 v_label_1 v_head_1 v_body_1).2.2))]), none, none, none]) (fun _ => True) rfl (T.cl_Rule v_k) (T.na_Rule_body v_k) (EX.ev (ex_tupL (fun _ => rfl) (EX.esL (xv 3 rfl)) (fun _ => rfl) (fun _ => T.n_tuple))) trivial (pp 0 rfl) rfl (fun _ => rfl) rfl (fun v_body_1 _ => ?_)
  exact run_end (.keep (.drop (.drop (.drop .nil))))
theorem ok_Rule___init___l (T : Txt K mg)  {f : Addr} {fd : FuncData} (F : FunD K "__init__" "Rule.__init__" (defArgs s_Rule___init___l) (defBody s_Rule___init___l) (defScope s_Rule___init___l) [] [] f fd) : FnOk P w K mg base (L2.CX P w) 1 f fd ["self", "label", "head", "body"] (spB K 4 r_Rule___init___l) :=
  fnOk_mkB F sc_Rule___init___l (fun cdv A outer s H E cs a outs hr hR hn => by
    obtain ⟨v_k, v_label, v_head, v_body, rfl, rfl, rfl⟩ := hR
    exact ⟨_, _, .nx _, rfl, rfl, fun vl => run_Rule___init___l T  hr v_k v_label v_head v_body vl⟩)
theorem mk_Rule___init___l (T : Txt K mg)  {C : Str} {fd : FuncData} (F : FunD K "__init__" "Rule.__init__" (defArgs s_Rule___init___l) (defBody s_Rule___init___l) (defScope s_Rule___init___l) [] [] (He.ma K (He.ga K C) "__init__") fd) : CalleeBI P w K mg base C 1 4 r_Rule___init___l :=
  ⟨fd, ["self", "label", "head", "body"], ok_Rule___init___l T  F, FunD.bindsN F fun _ _ _ _ _ _ us hl => match us, hl with | [_, _, _, _], _ => rfl⟩
end
/-! law_made -/
def m_law_made_1  (v_parts : (Str × Str × Str × (List Str))) : (Nat × Str × Str × (List Str)) := (cond (v_parts.1 == (Str.ofString "fact")) (0, (mi_Fact___init__ v_parts.2.2.1)) (cond (v_parts.1 == (Str.ofString "sure")) (1, (mi_Rule___init___l v_parts.2.1 v_parts.2.2.1 v_parts.2.2.2)) (cond (v_parts.1 == (Str.ofString "most")) (2, (mi_Rule___init___t v_parts.2.1 v_parts.2.2.1 v_parts.2.2.2)) (3, (mi_Rule___init___t v_parts.2.1 v_parts.2.2.1 v_parts.2.2.2)))))
def m_law_made (v_row_here : (Str × Str × Str × (List Str))) : (Nat × Str × Str × (List Str)) := (m_law_made_1 v_row_here)
abbrev s_law_made : Stmt := top 21
theorem sc_law_made : FnScope ["_law_row_here", "_law_sort", "_law_label", "_law_head", "_law_body"] ["_law_row_here"] (defScope s_law_made) := ⟨rfl, rfl, rfl, by decide +kernel, rfl, by decide +kernel, by decide +kernel⟩
def r_law_made : List Dt → Sum Cell Xc → Prop := fun ds a => ∃ (v_row_here : (Str × Str × Str × (List Str))), ds = [(e1_tup v_row_here)] ∧ a = .inl (.fz (enc_Rule (m_law_made v_row_here)))
section
variable {P : Program} {w : World} {K : PySem.W.Frag} {mg : Str → Option Value} {base : Heap}
theorem run_law_made (T : Txt K mg) (c_i_Block_Rule___init___t : CalleeBI P w K mg base "Block" 1 4 r_Rule___init___t) (c_i_Fact_Fact___init__ : CalleeBI P w K mg base "Fact" 3 2 r_Fact___init__) (c_i_Most_Rule___init___t : CalleeBI P w K mg base "Most" 1 4 r_Rule___init___t) (c_i_Sure_Rule___init___l : CalleeBI P w K mg base "Sure" 1 4 r_Rule___init___l) {f : Addr} {cdv : Value} {A : Around} {outer : List PySem.Env} {s : Shared} {H : Hp} {E : XK} (hr : Room 4 (A.deeper (PyProof.Rows.envOfC "_law_made" (defScope s_law_made) s.heap.objs.size f cdv))) (v_row_here : (Str × Str × Str × (List Str))) :
    Run (cxOf (L2.CX P w) P w K mg base ["_law_row_here", "_law_sort", "_law_label", "_law_head", "_law_body"] "_law_made" (defScope s_law_made) f cdv A outer s H E) K (wE E) sv0 (defBody s_law_made) (start0 ["_law_row_here", "_law_sort", "_law_label", "_law_head", "_law_body"] [(e1_tup v_row_here)]) (.rt (.fz (enc_Rule (m_law_made v_row_here))) none) := by
  refine run_asgTP (js := [1, 2, 3, 4]) (v := v_row_here) e1_tup (fun v_parts => .rt (.fz (enc_Rule (m_law_made_1 v_parts))) none) (fun _ => True) (fun v_parts => [Zf (e1_tup v_row_here), Zf (Dt.str v_parts.1), Zf (Dt.str v_parts.2.1), Zf (Dt.str v_parts.2.2.1), Zf (e0_vtup v_parts.2.2.2)]) (xv 0 rfl) trivial (pg_tup rfl (pgs_cons (pg_name (i := 1) sc_law_made.nd rfl (by first | exact Or.inl rfl | exact Or.inr rfl)) (pgs_cons (pg_name (i := 2) sc_law_made.nd rfl (by first | exact Or.inl rfl | exact Or.inr rfl)) (pgs_cons (pg_name (i := 3) sc_law_made.nd rfl (by first | exact Or.inl rfl | exact Or.inr rfl)) (pgs_cons (pg_name (i := 4) sc_law_made.nd rfl (by first | exact Or.inl rfl | exact Or.inr rfl)) pgs_nil))))) (fun _ => bd_tup (bdl_cons (bd_name (Nat.blt_eq.mp rfl)) (bdl_cons (bd_name (Nat.blt_eq.mp rfl)) (bdl_cons (bd_name (Nat.blt_eq.mp rfl)) (bdl_cons (bd_name (Nat.blt_eq.mp rfl)) bdl_nil)))) rfl) rfl (fun v_parts _ => ?_)
  refine run_gd (fun x : (Nat × Str × Str × (List Str)) => .rt (.fz (enc_Rule x)) none) (0, (mi_Fact___init__ v_parts.2.2.1)) (cond (v_parts.1 == (Str.ofString "sure")) (1, (mi_Rule___init___l v_parts.2.1 v_parts.2.2.1 v_parts.2.2.2)) (cond (v_parts.1 == (Str.ofString "most")) (2, (mi_Rule___init___t v_parts.2.1 v_parts.2.2.1 v_parts.2.2.2)) (3, (mi_Rule___init___t v_parts.2.1 v_parts.2.2.1 v_parts.2.2.2)))) (fun _ h => nomatch h) (eb_cmp says_eqS (xv 1 rfl) (ex_str (h := by decide +kernel))) (fun hb => ?_) (fun hb => ?_)
  · exact run_ret (EN.frz (en_make c_i_Fact_Fact___init__ T.mk_Fact T.gc_Fact (fun _ => ⟨rfl, rfl, rfl, rfl, rfl⟩) (fun _ => hr.mono (by decide)) (fun _ => rfl) (ea_cons (xv 3 rfl) ea_nil) rfl ⟨0, v_parts.2.2.1, rfl, rfl, rfl⟩) rfl)
  · refine run_gd (fun x : (Nat × Str × Str × (List Str)) => .rt (.fz (enc_Rule x)) none) (1, (mi_Rule___init___l v_parts.2.1 v_parts.2.2.1 v_parts.2.2.2)) (cond (v_parts.1 == (Str.ofString "most")) (2, (mi_Rule___init___t v_parts.2.1 v_parts.2.2.1 v_parts.2.2.2)) (3, (mi_Rule___init___t v_parts.2.1 v_parts.2.2.1 v_parts.2.2.2))) (fun _ h => nomatch h) (eb_cmp says_eqS (xv 1 rfl) (ex_str (h := by decide +kernel))) (fun hb => ?_) (fun hb => ?_)
    · exact run_ret (EN.frz (en_make c_i_Sure_Rule___init___l T.mk_Sure T.gc_Sure (fun _ => ⟨rfl, rfl, rfl, rfl, rfl⟩) (fun _ => hr.mono (by decide)) (fun _ => rfl) (ea_cons (xv 2 rfl) (ea_cons (xv 3 rfl) (ea_cons (EN.frz (en_list (fun _ => rfl) (EX.esT (xv 4 rfl)) (fun _ => rfl) (fun _ => T.n_list)) rfl) ea_nil))) rfl ⟨1, v_parts.2.1, v_parts.2.2.1, v_parts.2.2.2, rfl, rfl, rfl⟩) rfl)
    · refine run_gd (fun x : (Nat × Str × Str × (List Str)) => .rt (.fz (enc_Rule x)) none) (2, (mi_Rule___init___t v_parts.2.1 v_parts.2.2.1 v_parts.2.2.2)) (3, (mi_Rule___init___t v_parts.2.1 v_parts.2.2.1 v_parts.2.2.2)) (fun _ h => nomatch h) (eb_cmp says_eqS (xv 1 rfl) (ex_str (h := by decide +kernel))) (fun hb => ?_) (fun hb => ?_)
      · exact run_ret (EN.frz (en_make c_i_Most_Rule___init___t T.mk_Most T.gc_Most (fun _ => ⟨rfl, rfl, rfl, rfl, rfl⟩) (fun _ => hr.mono (by decide)) (fun _ => rfl) (ea_cons (xv 2 rfl) (ea_cons (xv 3 rfl) (ea_cons (xv 4 rfl) ea_nil))) rfl ⟨2, v_parts.2.1, v_parts.2.2.1, v_parts.2.2.2, rfl, rfl, rfl⟩) rfl)
      · exact run_ret (EN.frz (en_make c_i_Block_Rule___init___t T.mk_Block T.gc_Block (fun _ => ⟨rfl, rfl, rfl, rfl, rfl⟩) (fun _ => hr.mono (by decide)) (fun _ => rfl) (ea_cons (xv 2 rfl) (ea_cons (xv 3 rfl) (ea_cons (xv 4 rfl) ea_nil))) rfl ⟨3, v_parts.2.1, v_parts.2.2.1, v_parts.2.2.2, rfl, rfl, rfl⟩) rfl)
theorem ok_law_made (T : Txt K mg) (c_i_Block_Rule___init___t : CalleeBI P w K mg base "Block" 1 4 r_Rule___init___t) (c_i_Fact_Fact___init__ : CalleeBI P w K mg base "Fact" 3 2 r_Fact___init__) (c_i_Most_Rule___init___t : CalleeBI P w K mg base "Most" 1 4 r_Rule___init___t) (c_i_Sure_Rule___init___l : CalleeBI P w K mg base "Sure" 1 4 r_Rule___init___l) {f : Addr} {fd : FuncData} (F : FunD K "_law_made" "_law_made" (defArgs s_law_made) (defBody s_law_made) (defScope s_law_made) [] [] f fd) : FnOk P w K mg base (L2.CX P w) 5 f fd ["_law_row_here"] (spR K 1 r_law_made) :=
  fnOk_mk F sc_law_made (fun cdv A outer s H E ds a hr hR hn => by
    obtain ⟨v_row_here, rfl, rfl⟩ := hR
    exact ⟨_, .rt _, run_law_made T c_i_Block_Rule___init___t c_i_Fact_Fact___init__ c_i_Most_Rule___init___t c_i_Sure_Rule___init___l hr v_row_here⟩)
theorem mk_law_made (T : Txt K mg) (c_i_Block_Rule___init___t : CalleeBI P w K mg base "Block" 1 4 r_Rule___init___t) (c_i_Fact_Fact___init__ : CalleeBI P w K mg base "Fact" 3 2 r_Fact___init__) (c_i_Most_Rule___init___t : CalleeBI P w K mg base "Most" 1 4 r_Rule___init___t) (c_i_Sure_Rule___init___l : CalleeBI P w K mg base "Sure" 1 4 r_Rule___init___l) {f : Addr} {fd : FuncData} (F : FunD K "_law_made" "_law_made" (defArgs s_law_made) (defBody s_law_made) (defScope s_law_made) [] [] f fd) {x : Str} (gf : mg x = some (.ref f)) : Callee P w K mg base x 5 1 r_law_made :=
  ⟨f, fd, ["_law_row_here"], ok_law_made T c_i_Block_Rule___init___t c_i_Fact_Fact___init__ c_i_Most_Rule___init___t c_i_Sure_Rule___init___l F, gf, F.kp, FunD.bindsN F fun _ _ _ _ _ _ us hl => match us, hl with | [_], _ => rfl⟩
end
/-! Ground___init__ -/
def m_Ground___init___1  (v_st : ((List ((Str × Str) × Bool)))) (v_it : (Str × Str)) : Step ((List ((Str × Str) × Bool))) Empty := (.nx (puts v_st v_it true))
def k_Ground___init___1  (v_st : ((List ((Str × Str) × Bool)))) (v_it : (Str × Str)) : Prop := ((v_st).length + 1 ≤ big)
def m_Ground___init___2  (v_st_1 : ((List (Str × (List (Nat × Str × Str × (List Str))))))) (v_it_1 : (Nat × Str × Str × (List Str))) : Step ((List (Str × (List (Nat × Str × Str × (List Str)))))) Empty := (.nx (apps v_st_1 v_it_1.2.2.1 v_it_1))
def k_Ground___init___2  (v_st_1 : ((List (Str × (List (Nat × Str × Str × (List Str))))))) (v_it_1 : (Nat × Str × Str × (List Str))) : Prop := (((v_st_1).length + 1 ≤ big) ∧ ((Option.getD (gets v_st_1 v_it_1.2.2.1) []).length + 1 ≤ big))
def m_Ground___init___3 (v_every : (List (Nat × Str × Str × (List Str)))) (v_told : (List (Str × Str))) (v_st : ((List ((Str × Str) × Bool)))) (v_st_1 : ((List (Str × (List (Nat × Str × Str × (List Str))))))) : ((List (Nat × Str × Str × (List Str))) × (List (Str × Str)) × (List ((Str × Str) × Bool)) × (List (Str × (List (Nat × Str × Str × (List Str)))))) := (v_every, v_told, v_st, v_st_1)
def m_Ground___init___4 (v_rules : (List (Nat × Str × Str × (List Str)))) (v_every : (List (Nat × Str × Str × (List Str)))) (v_told : (List (Str × Str))) (v_st : ((List ((Str × Str) × Bool)))) (v_heads : (List (Str × (List (Nat × Str × Str × (List Str)))))) : ((List (Nat × Str × Str × (List Str))) × (List (Str × Str)) × (List ((Str × Str) × Bool)) × (List (Str × (List (Nat × Str × Str × (List Str)))))) := (loop (m_Ground___init___2) (fun y : Empty => y.elim) (m_Ground___init___3 v_every v_told v_st) v_rules v_heads)
def k_Ground___init___4 (v_rules : (List (Nat × Str × Str × (List Str)))) (v_every : (List (Nat × Str × Str × (List Str)))) (v_told : (List (Str × Str))) (v_st : ((List ((Str × Str) × Bool)))) (v_heads : (List (Str × (List (Nat × Str × Str × (List Str)))))) : Prop := (LoopAll (k_Ground___init___2) (fun _ => True) (m_Ground___init___2) v_rules v_heads)
def m_Ground___init___5 (v_rules : (List (Nat × Str × Str × (List Str)))) (v_every : (List (Nat × Str × Str × (List Str)))) (v_told : (List (Str × Str))) (v_st : ((List ((Str × Str) × Bool)))) : ((List (Nat × Str × Str × (List Str))) × (List (Str × Str)) × (List ((Str × Str) × Bool)) × (List (Str × (List (Nat × Str × Str × (List Str)))))) := (m_Ground___init___4 v_rules v_every v_told v_st [])
def k_Ground___init___5 (v_rules : (List (Nat × Str × Str × (List Str)))) (v_every : (List (Nat × Str × Str × (List Str)))) (v_told : (List (Str × Str))) (v_st : ((List ((Str × Str) × Bool)))) : Prop := (k_Ground___init___4 v_rules v_every v_told v_st [])
def m_Ground___init___6 (v_rules : (List (Nat × Str × Str × (List Str)))) (v_pairs : (List (Str × Str))) (v_every : (List (Nat × Str × Str × (List Str)))) (v_told : (List (Str × Str))) (v_wins : (List ((Str × Str) × Bool))) : ((List (Nat × Str × Str × (List Str))) × (List (Str × Str)) × (List ((Str × Str) × Bool)) × (List (Str × (List (Nat × Str × Str × (List Str)))))) := (loop (m_Ground___init___1) (fun y : Empty => y.elim) (m_Ground___init___5 v_rules v_every v_told) v_pairs v_wins)
def k_Ground___init___6 (v_rules : (List (Nat × Str × Str × (List Str)))) (v_pairs : (List (Str × Str))) (v_every : (List (Nat × Str × Str × (List Str)))) (v_told : (List (Str × Str))) (v_wins : (List ((Str × Str) × Bool))) : Prop := (LoopAll (k_Ground___init___1) (k_Ground___init___5 v_rules v_every v_told) (m_Ground___init___1) v_pairs v_wins)
def m_Ground___init___7 (v_rules : (List (Nat × Str × Str × (List Str)))) (v_pairs : (List (Str × Str))) (v_every : (List (Nat × Str × Str × (List Str)))) (v_told : (List (Str × Str))) : ((List (Nat × Str × Str × (List Str))) × (List (Str × Str)) × (List ((Str × Str) × Bool)) × (List (Str × (List (Nat × Str × Str × (List Str)))))) := (m_Ground___init___6 v_rules v_pairs v_every v_told [])
def k_Ground___init___7 (v_rules : (List (Nat × Str × Str × (List Str)))) (v_pairs : (List (Str × Str))) (v_every : (List (Nat × Str × Str × (List Str)))) (v_told : (List (Str × Str))) : Prop := (k_Ground___init___6 v_rules v_pairs v_every v_told [])
def m_Ground___init___8 (v_rules : (List (Nat × Str × Str × (List Str)))) (v_pairs : (List (Str × Str))) (v_every : (List (Nat × Str × Str × (List Str)))) : ((List (Nat × Str × Str × (List Str))) × (List (Str × Str)) × (List ((Str × Str) × Bool)) × (List (Str × (List (Nat × Str × Str × (List Str)))))) := (m_Ground___init___7 v_rules v_pairs v_every v_pairs)
def k_Ground___init___8 (v_rules : (List (Nat × Str × Str × (List Str)))) (v_pairs : (List (Str × Str))) (v_every : (List (Nat × Str × Str × (List Str)))) : Prop := (k_Ground___init___7 v_rules v_pairs v_every v_pairs)
def mi_Ground___init__ (v_rules : (List (Nat × Str × Str × (List Str)))) (v_pairs : (List (Str × Str))) : ((List (Nat × Str × Str × (List Str))) × (List (Str × Str)) × (List ((Str × Str) × Bool)) × (List (Str × (List (Nat × Str × Str × (List Str)))))) := (m_Ground___init___8 v_rules v_pairs v_rules)
def k_Ground___init__ (v_rules : (List (Nat × Str × Str × (List Str)))) (v_pairs : (List (Str × Str))) : Prop := (k_Ground___init___8 v_rules v_pairs v_rules)
abbrev s_Ground___init__ : Stmt := sub (top 14) 0
theorem sc_Ground___init__ : FnScope ["self", "rules", "pairs", "pair", "rule"] ["self", "rules", "pairs"] (defScope s_Ground___init__) := ⟨rfl, rfl, rfl, by decide +kernel, rfl, by decide +kernel, by decide +kernel⟩
def r_Ground___init__ : List Cell → Sum Cell Xc → List Cell → Prop := fun cs a outs => ∃ (v_k : Nat) (v_rules : (List (Nat × Str × Str × (List Str)))) (v_pairs : (List (Str × Str))), k_Ground___init__ v_rules v_pairs ∧ cs = [.ob (cn_Ground v_k) [], .fz (e7_list v_rules), .fz (e9_list v_pairs)] ∧ a = .inl (.fz .non) ∧ outs = [.ob (cn_Ground v_k) [("every", .fz (e7_list (mi_Ground___init__ v_rules v_pairs).1)), ("told", .fz (e9_list (mi_Ground___init__ v_rules v_pairs).2.1)), ("wins", .fz (e10_tdict (mi_Ground___init__ v_rules v_pairs).2.2.1)), ("heads", .fz (e11_dict (mi_Ground___init__ v_rules v_pairs).2.2.2))], .fz (e7_list v_rules), .fz (e9_list v_pairs)]
section
variable {P : Program} {w : World} {K : PySem.W.Frag} {mg : Str → Option Value} {base : Heap}
theorem run_Ground___init__ (T : Txt K mg)  {f : Addr} {cdv : Value} {A : Around} {outer : List PySem.Env} {s : Shared} {H : Hp} {E : XK} (hr : Room 0 (A.deeper (PyProof.Rows.envOfC "Ground.__init__" (defScope s_Ground___init__) s.heap.objs.size f cdv))) (v_k : Nat) (v_rules : (List (Nat × Str × Str × (List Str)))) (v_pairs : (List (Str × Str))) (hk : k_Ground___init__ v_rules v_pairs) (vl : Nat → V) :
    Run (cxOf (L2.CX P w) P w K mg base ["self", "rules", "pairs", "pair", "rule"] "Ground.__init__" (defScope s_Ground___init__) f cdv A outer s H E) K (wE E) ⟨[0], vl⟩ (defBody s_Ground___init__) (startC ["self", "rules", "pairs", "pair", "rule"] [.ob (cn_Ground v_k) [], .fz (e7_list v_rules), .fz (e9_list v_pairs)]) (.nx [some (.ob (cn_Ground v_k) [("every", .fz (e7_list (mi_Ground___init__ v_rules v_pairs).1)), ("told", .fz (e9_list (mi_Ground___init__ v_rules v_pairs).2.1)), ("wins", .fz (e10_tdict (mi_Ground___init__ v_rules v_pairs).2.2.1)), ("heads", .fz (e11_dict (mi_Ground___init__ v_rules v_pairs).2.2.2))]), none, none, none, none]) := by
  have h9 := hk
  refine run_setF (i := 0) (π := []) (fun _ => []) v_rules (fun v_every => .fz (e7_list v_every)) (fun _ => _) (fun v_every => [some (.ob (cn_Ground v_k) [("every", .fz (e7_list v_every))]), Zf (e7_list v_rules), Zf (e9_list v_pairs), none, none]) (fun v_every => .nx [some (.ob (cn_Ground v_k) [("every", .fz (e7_list (m_Ground___init___8 v_rules v_pairs v_every).1)), ("told", .fz (e9_list (m_Ground___init___8 v_rules v_pairs v_every).2.1)), ("wins", .fz (e10_tdict (m_Ground___init___8 v_rules v_pairs v_every).2.2.1)), ("heads", .fz (e11_dict (m_Ground___init___8 v_rules v_pairs v_every).2.2.2))]), none, none, none, none]) (k_Ground___init___8 v_rules v_pairs) rfl (T.cl_Ground v_k) (T.na_Ground_every v_k) (EX.ev (EN.frz (en_list (fun _ => rfl) (EX.esL (xv 1 rfl)) (fun _ => rfl) (fun _ => T.n_list)) rfl)) h9 (pp 0 rfl) rfl (fun _ => rfl) rfl (fun v_every hk => ?_)
  have h8 := hk
  refine run_setF (i := 0) (π := []) (fun _ => [("every", .fz (e7_list v_every))]) v_pairs (fun v_told => .fz (e9_list v_told)) (fun _ => _) (fun v_told => [some (.ob (cn_Ground v_k) [("every", .fz (e7_list v_every)), ("told", .fz (e9_list v_told))]), Zf (e7_list v_rules), Zf (e9_list v_pairs), none, none]) (fun v_told => .nx [some (.ob (cn_Ground v_k) [("every", .fz (e7_list (m_Ground___init___7 v_rules v_pairs v_every v_told).1)), ("told", .fz (e9_list (m_Ground___init___7 v_rules v_pairs v_every v_told).2.1)), ("wins", .fz (e10_tdict (m_Ground___init___7 v_rules v_pairs v_every v_told).2.2.1)), ("heads", .fz (e11_dict (m_Ground___init___7 v_rules v_pairs v_every v_told).2.2.2))]), none, none, none, none]) (k_Ground___init___7 v_rules v_pairs v_every) rfl (T.cl_Ground v_k) (T.na_Ground_told v_k) (EX.ev (EN.frz (en_list (fun _ => rfl) (EX.esL (xv 2 rfl)) (fun _ => rfl) (fun _ => T.n_list)) rfl)) h8 (pp 0 rfl) rfl (fun _ => rfl) rfl (fun v_told hk => ?_)
  have h7 := hk
  refine run_setF (i := 0) (π := []) (fun _ => [("every", .fz (e7_list v_every)), ("told", .fz (e9_list v_told))]) [] (fun v_wins => .odt (encT kSS Dt.bl v_wins)) (fun _ => _) (fun v_wins => [some (.ob (cn_Ground v_k) [("every", .fz (e7_list v_every)), ("told", .fz (e9_list v_told)), ("wins", .odt (encT kSS Dt.bl v_wins))]), Zf (e7_list v_rules), Zf (e9_list v_pairs), none, none]) (fun v_wins => .nx [some (.ob (cn_Ground v_k) [("every", .fz (e7_list (m_Ground___init___6 v_rules v_pairs v_every v_told v_wins).1)), ("told", .fz (e9_list (m_Ground___init___6 v_rules v_pairs v_every v_told v_wins).2.1)), ("wins", .fz (e10_tdict (m_Ground___init___6 v_rules v_pairs v_every v_told v_wins).2.2.1)), ("heads", .fz (e11_dict (m_Ground___init___6 v_rules v_pairs v_every v_told v_wins).2.2.2))]), none, none, none, none]) (k_Ground___init___6 v_rules v_pairs v_every v_told) rfl (T.cl_Ground v_k) (T.na_Ground_wins v_k) (EN.ev en_dit0) h7 (pp 0 rfl) rfl (fun _ => rfl) rfl (fun v_wins hk => ?_)
  have h6 := hk
  refine run_forQ (js := [3]) (P := (k_Ground___init___1)) (Q := (k_Ground___init___5 v_rules v_every v_told)) (s0 := v_wins) e8_tup (fun v_st : ((List ((Str × Str) × Bool))) => [some (.ob (cn_Ground v_k) [("every", .fz (e7_list v_every)), ("told", .fz (e9_list v_told)), ("wins", .odt (encT kSS Dt.bl v_st))]), Zf (e7_list v_rules), Zf (e9_list v_pairs), none, none]) (fun (v_st : ((List ((Str × Str) × Bool)))) (v_it : (Str × Str)) => [some (.ob (cn_Ground v_k) [("every", .fz (e7_list v_every)), ("told", .fz (e9_list v_told)), ("wins", .odt (encT kSS Dt.bl v_st))]), Zf (e7_list v_rules), Zf (e9_list v_pairs), Zf (e8_tup v_it), none]) (fun x : ((List (Nat × Str × Str × (List Str))) × (List (Str × Str)) × (List ((Str × Str) × Bool)) × (List (Str × (List (Nat × Str × Str × (List Str)))))) => .nx [some (.ob (cn_Ground v_k) [("every", .fz (e7_list x.1)), ("told", .fz (e9_list x.2.1)), ("wins", .fz (e10_tdict x.2.2.1)), ("heads", .fz (e11_dict x.2.2.2))]), none, none, none, none]) (m_Ground___init___1) (fun y : Empty => y.elim) (m_Ground___init___5 v_rules v_every v_told) (passes_of rfl) rfl (pg_name (i := 3) sc_Ground___init__.nd rfl (by first | exact Or.inl rfl | exact Or.inr rfl)) rfl (fun y => nomatch y) (src_list (fun _ => rfl) (xv 2 rfl)) (.keep (.keep (.keep (.keep (.keep .nil))))) (fun _ _ => (bd_name (Nat.blt_eq.mp rfl))) h6 (fun v_st v_it hm hk => ?_) (fun v_st hk => ?_)
  · have h1 := hk
    refine run_setDT (g := kSS) (i := 0) (π := [2]) (kvs := v_st) (k := v_it) (a := true) (G' := [some (.ob (cn_Ground v_k) [("every", .fz (e7_list v_every)), ("told", .fz (e9_list v_told)), ("wins", .odt (encT kSS Dt.bl (puts v_st v_it true)))]), Zf (e7_list v_rules), Zf (e9_list v_pairs), Zf (e8_tup v_it), none]) Dt.bl kSS_inj e8_tup (fun p F v r => kSS_rep p F v r) (units_of hr) (ep_fld 2 (fun _ => rfl) (T.cl_Ground v_k) (T.na_Ground_wins v_k) (pp 0 rfl) rfl) rfl ex_bl (xv 3 rfl) h1 rfl ?_
    exact run_end (.keep (.keep (.keep (.drop (.keep .nil)))))
  · have h5 := hk
    refine run_setF (i := 0) (π := []) (fun _ => [("every", .fz (e7_list v_every)), ("told", .fz (e9_list v_told)), ("wins", .odt (encT kSS Dt.bl v_st))]) [] (fun v_heads => .oc (encL Sum.inr enc_Rule v_heads)) (fun _ => _) (fun v_heads => [some (.ob (cn_Ground v_k) [("every", .fz (e7_list v_every)), ("told", .fz (e9_list v_told)), ("wins", .odt (encT kSS Dt.bl v_st)), ("heads", .oc (encL Sum.inr enc_Rule v_heads))]), Zf (e7_list v_rules), Zf (e9_list v_pairs), none, none]) (fun v_heads => .nx [some (.ob (cn_Ground v_k) [("every", .fz (e7_list (m_Ground___init___4 v_rules v_every v_told v_st v_heads).1)), ("told", .fz (e9_list (m_Ground___init___4 v_rules v_every v_told v_st v_heads).2.1)), ("wins", .fz (e10_tdict (m_Ground___init___4 v_rules v_every v_told v_st v_heads).2.2.1)), ("heads", .fz (e11_dict (m_Ground___init___4 v_rules v_every v_told v_st v_heads).2.2.2))]), none, none, none, none]) (k_Ground___init___4 v_rules v_every v_told v_st) rfl (T.cl_Ground v_k) (T.na_Ground_heads v_k) (EN.ev en_oc0) h5 (pp 0 rfl) rfl (fun _ => rfl) rfl (fun v_heads hk => ?_)
    have h4 := hk
    refine run_forQ (js := [4]) (P := (k_Ground___init___2)) (Q := (fun _ => True)) (s0 := v_heads) enc_Rule (fun v_st_1 : ((List (Str × (List (Nat × Str × Str × (List Str)))))) => [some (.ob (cn_Ground v_k) [("every", .fz (e7_list v_every)), ("told", .fz (e9_list v_told)), ("wins", .odt (encT kSS Dt.bl v_st)), ("heads", .oc (encL Sum.inr enc_Rule v_st_1))]), Zf (e7_list v_rules), Zf (e9_list v_pairs), none, none]) (fun (v_st_1 : ((List (Str × (List (Nat × Str × Str × (List Str))))))) (v_it_1 : (Nat × Str × Str × (List Str))) => [some (.ob (cn_Ground v_k) [("every", .fz (e7_list v_every)), ("told", .fz (e9_list v_told)), ("wins", .odt (encT kSS Dt.bl v_st)), ("heads", .oc (encL Sum.inr enc_Rule v_st_1))]), Zf (e7_list v_rules), Zf (e9_list v_pairs), none, Zf (enc_Rule v_it_1)]) (fun x : ((List (Nat × Str × Str × (List Str))) × (List (Str × Str)) × (List ((Str × Str) × Bool)) × (List (Str × (List (Nat × Str × Str × (List Str)))))) => .nx [some (.ob (cn_Ground v_k) [("every", .fz (e7_list x.1)), ("told", .fz (e9_list x.2.1)), ("wins", .fz (e10_tdict x.2.2.1)), ("heads", .fz (e11_dict x.2.2.2))]), none, none, none, none]) (m_Ground___init___2) (fun y : Empty => y.elim) (m_Ground___init___3 v_every v_told v_st) (passes_of rfl) rfl (pg_name (i := 4) sc_Ground___init__.nd rfl (by first | exact Or.inl rfl | exact Or.inr rfl)) rfl (fun y => nomatch y) (src_list (fun _ => rfl) (xv 1 rfl)) (.keep (.keep (.keep (.keep (.keep .nil))))) (fun _ _ => (bd_name (Nat.blt_eq.mp rfl))) h4 (fun v_st_1 v_it_1 hm hk => ?_) (fun v_st_1 _ => ?_)
    · obtain ⟨h2, h3⟩ := hk
      refine run_sda (g := Sum.inr) (i := 0) (π := [3]) (kvs := v_st_1) (k := v_it_1.2.2.1) (y := v_it_1) (G' := [some (.ob (cn_Ground v_k) [("every", .fz (e7_list v_every)), ("told", .fz (e9_list v_told)), ("wins", .odt (encT kSS Dt.bl v_st)), ("heads", .oc (encL Sum.inr enc_Rule (apps v_st_1 v_it_1.2.2.1 v_it_1)))]), Zf (e7_list v_rules), Zf (e9_list v_pairs), none, Zf (enc_Rule v_it_1)]) enc_Rule (fun _ _ h => Sum.inr.inj h) (keyS _) rfl (ep_fld 3 (fun _ => rfl) (T.cl_Ground v_k) (T.na_Ground_heads v_k) (pp 0 rfl) rfl) rfl (ex_fld (fun _ => rfl) (T.cl_Rule _) (T.na_Rule_head _) (xv 4 rfl) (lk_Rule_head _)) (fun _ => (xv 4 rfl)) h2 h3 rfl ?_ ⟨rfl, rfl, rfl, rfl⟩
      exact run_end (.keep (.keep (.keep (.keep (.drop .nil)))))
    · refine run_freezeQ (i := 0) (π := [2]) (G' := [some (.ob (cn_Ground v_k) [("every", .fz (e7_list v_every)), ("told", .fz (e9_list v_told)), ("wins", .fz (e10_tdict v_st)), ("heads", .oc (encL Sum.inr enc_Rule v_st_1))]), Zf (e7_list v_rules), Zf (e9_list v_pairs), none, none]) rfl rfl rfl ?_
      refine run_freezeQ (i := 0) (π := [3]) (G' := [some (.ob (cn_Ground v_k) [("every", .fz (e7_list v_every)), ("told", .fz (e9_list v_told)), ("wins", .fz (e10_tdict v_st)), ("heads", .fz (e11_dict v_st_1))]), Zf (e7_list v_rules), Zf (e9_list v_pairs), none, none]) rfl (data_oc _ _ _) rfl ?_
      exact run_end (.keep (.drop (.drop (.keep (.keep .nil)))))
theorem ok_Ground___init__ (T : Txt K mg)  {f : Addr} {fd : FuncData} (F : FunD K "__init__" "Ground.__init__" (defArgs s_Ground___init__) (defBody s_Ground___init__) (defScope s_Ground___init__) [] [] f fd) : FnOk P w K mg base (L2.CX P w) 1 f fd ["self", "rules", "pairs"] (spB K 3 r_Ground___init__) :=
  fnOk_mkB F sc_Ground___init__ (fun cdv A outer s H E cs a outs hr hR hn => by
    obtain ⟨v_k, v_rules, v_pairs, hk, rfl, rfl, rfl⟩ := hR
    exact ⟨_, _, .nx _, rfl, rfl, fun vl => run_Ground___init__ T  hr v_k v_rules v_pairs hk vl⟩)
theorem mk_Ground___init__ (T : Txt K mg)  {C : Str} {fd : FuncData} (F : FunD K "__init__" "Ground.__init__" (defArgs s_Ground___init__) (defBody s_Ground___init__) (defScope s_Ground___init__) [] [] (He.ma K (He.ga K C) "__init__") fd) : CalleeBI P w K mg base C 1 3 r_Ground___init__ :=
  ⟨fd, ["self", "rules", "pairs"], ok_Ground___init__ T  F, FunD.bindsN F fun _ _ _ _ _ _ us hl => match us, hl with | [_, _, _], _ => rfl⟩
end
/-! law_listed -/
def m_law_listed_1 (v_pool_here : (List Str)) (v_ranks : (List (Str × Int))) (v_way : Int) (v_cell : Int) : (List Str) := (cond (v_way == (1 : Int)) (List.map (fun v_item : Nat => (itm v_pool_here ((m_law_mix v_cell ((v_item : Int))) % ((v_pool_here).length : Int)))) (List.range (Int.toNat (v_cell % (31 : Int))))) (cond (v_way == (2 : Int)) (List.map (fun v_item_5 : (Int × Str) => v_item_5.2) (List.mergeSort (List.map (fun v_item_4 : (Nat × Str) => ((m_law_mix v_cell ((v_item_4.1 : Int))), v_item_4.2)) (enum (sortT (List.map Prod.fst v_ranks)))) leIS)) (List.map (fun v_item_10 : (Int × Str) => v_item_10.2) (List.mergeSort (List.map (fun v_item_9 : (Str × Int) => (v_item_9.2, v_item_9.1)) v_ranks) leIS))))
def k_law_listed_1 (v_pool_here : (List Str)) (v_ranks : (List (Str × Int))) (v_way : Int) (v_cell : Int) : Prop := (((v_way == (1 : Int)) = true → ((rngOk (v_cell % (31 : Int))) ∧ (((List.range (Int.toNat (v_cell % (31 : Int))))).length ≤ big) ∧ (∀ v_item ∈ (List.range (Int.toNat (v_cell % (31 : Int)))), ((k_law_mix v_cell ((v_item : Int))) ∧ ((0 : Int) < ((v_pool_here).length : Int)) ∧ (inI v_pool_here ((m_law_mix v_cell ((v_item : Int))) % ((v_pool_here).length : Int)) = true))))) ∧ ((v_way == (1 : Int)) = false → (((v_way == (2 : Int)) = true → ((((enum (sortT (List.map Prod.fst v_ranks)))).length ≤ big) ∧ (∀ v_item_4 ∈ (enum (sortT (List.map Prod.fst v_ranks))), (k_law_mix v_cell ((v_item_4.1 : Int)))) ∧ (((List.map (fun v_item_4 : (Nat × Str) => ((m_law_mix v_cell ((v_item_4.1 : Int))), v_item_4.2)) (enum (sortT (List.map Prod.fst v_ranks))))).length ≤ big) ∧ (((List.mergeSort (List.map (fun v_item_4 : (Nat × Str) => ((m_law_mix v_cell ((v_item_4.1 : Int))), v_item_4.2)) (enum (sortT (List.map Prod.fst v_ranks)))) leIS)).length ≤ big))) ∧ ((v_way == (2 : Int)) = false → (((v_ranks).length ≤ big) ∧ (((List.map (fun v_item_9 : (Str × Int) => (v_item_9.2, v_item_9.1)) v_ranks)).length ≤ big) ∧ (((List.mergeSort (List.map (fun v_item_9 : (Str × Int) => (v_item_9.2, v_item_9.1)) v_ranks) leIS)).length ≤ big))))))
def m_law_listed_2 (v_script : (List Int)) (v_pool_here : (List Str)) (v_ranks : (List (Str × Int))) (v_way : Int) : (List Str) := (m_law_listed_1 v_pool_here v_ranks v_way ((m_law_cell_at v_script ((3 : Int))) / (4 : Int)))
def k_law_listed_2 (v_script : (List Int)) (v_pool_here : (List Str)) (v_ranks : (List (Str × Int))) (v_way : Int) : Prop := ((k_law_cell_at v_script ((3 : Int))) ∧ (k_law_listed_1 v_pool_here v_ranks v_way ((m_law_cell_at v_script ((3 : Int))) / (4 : Int))))
def m_law_listed (v_script : (List Int)) (v_pool_here : (List Str)) (v_ranks : (List (Str × Int))) : (List Str) := (m_law_listed_2 v_script v_pool_here v_ranks ((m_law_cell_at v_script ((3 : Int))) % (4 : Int)))
def k_law_listed (v_script : (List Int)) (v_pool_here : (List Str)) (v_ranks : (List (Str × Int))) : Prop := ((k_law_cell_at v_script ((3 : Int))) ∧ (k_law_listed_2 v_script v_pool_here v_ranks ((m_law_cell_at v_script ((3 : Int))) % (4 : Int))))
abbrev s_law_listed : Stmt := top 26
theorem sc_law_listed : FnScope ["_law_script", "_law_pool_here", "_law_ranks", "_law_way", "_law_cell", "_law_pair", "_law_j", "_law_head", "_law_rank", "_law_q"] ["_law_script", "_law_pool_here", "_law_ranks"] (defScope s_law_listed) := ⟨rfl, rfl, rfl, by decide +kernel, rfl, by decide +kernel, by decide +kernel⟩
def r_law_listed : List Dt → Sum Cell Xc → Prop := fun ds a => ∃ (v_script : (List Int)) (v_pool_here : (List Str)) (v_ranks : (List (Str × Int))), k_law_listed v_script v_pool_here v_ranks ∧ ds = [(e3_scr v_script), (e2_list v_pool_here), (e6_dict v_ranks)] ∧ a = .inl (.ol (List.map Dt.str (m_law_listed v_script v_pool_here v_ranks)))
section
variable {P : Program} {w : World} {K : PySem.W.Frag} {mg : Str → Option Value} {base : Heap}
theorem run_law_listed (T : Txt K mg) (c_law_cell_at : Callee P w K mg base "_law_cell_at" 1 2 r_law_cell_at) (c_law_mix : Callee P w K mg base "_law_mix" 1 2 r_law_mix) {f : Addr} {cdv : Value} {A : Around} {outer : List PySem.Env} {s : Shared} {H : Hp} {E : XK} (hr : Room 1 (A.deeper (PyProof.Rows.envOfC "_law_listed" (defScope s_law_listed) s.heap.objs.size f cdv))) (v_script : (List Int)) (v_pool_here : (List Str)) (v_ranks : (List (Str × Int))) (hk : k_law_listed v_script v_pool_here v_ranks) :
    Run (cxOf (L2.CX P w) P w K mg base ["_law_script", "_law_pool_here", "_law_ranks", "_law_way", "_law_cell", "_law_pair", "_law_j", "_law_head", "_law_rank", "_law_q"] "_law_listed" (defScope s_law_listed) f cdv A outer s H E) K (wE E) sv0 (defBody s_law_listed) (start0 ["_law_script", "_law_pool_here", "_law_ranks", "_law_way", "_law_cell", "_law_pair", "_law_j", "_law_head", "_law_rank", "_law_q"] [(e3_scr v_script), (e2_list v_pool_here), (e6_dict v_ranks)]) (.rt (.ol (List.map Dt.str (m_law_listed v_script v_pool_here v_ranks))) none) := by
  obtain ⟨h17, h18⟩ := hk
  refine run_asgE (i := 3) ((m_law_cell_at v_script ((3 : Int))) % (4 : Int)) (fun v_way => .fz (Dt.int v_way)) (fun _ => _) (fun v_way => [Zf (e3_scr v_script), Zf (e2_list v_pool_here), Zf (e6_dict v_ranks), Zf (Dt.int v_way), none, none, none, none, none, none]) (fun v_way => .rt (.ol (List.map Dt.str (m_law_listed_2 v_script v_pool_here v_ranks v_way))) none) (k_law_listed_2 v_script v_pool_here v_ranks) (EX.ev (ex_mod (ex_call c_law_cell_at (fun _ => ⟨rfl, rfl, rfl, rfl, rfl⟩) (fun _ => hr.mono (by decide)) (fun _ => rfl) (ea_cons (xv 0 rfl) (ea_cons ex_int ea_nil)) rfl ⟨v_script, (3 : Int), h17, rfl, rfl⟩) ex_int (by decide))) h18 sc_law_listed.nd (fun _ => rfl) (fun v_way hk => ?_)
  obtain ⟨h15, h16⟩ := hk
  refine run_asgE (i := 4) ((m_law_cell_at v_script ((3 : Int))) / (4 : Int)) (fun v_cell => .fz (Dt.int v_cell)) (fun _ => _) (fun v_cell => [Zf (e3_scr v_script), Zf (e2_list v_pool_here), Zf (e6_dict v_ranks), Zf (Dt.int v_way), Zf (Dt.int v_cell), none, none, none, none, none]) (fun v_cell => .rt (.ol (List.map Dt.str (m_law_listed_1 v_pool_here v_ranks v_way v_cell))) none) (k_law_listed_1 v_pool_here v_ranks v_way) (EX.ev (ex_fdiv (ex_call c_law_cell_at (fun _ => ⟨rfl, rfl, rfl, rfl, rfl⟩) (fun _ => hr.mono (by decide)) (fun _ => rfl) (ea_cons (xv 0 rfl) (ea_cons ex_int ea_nil)) rfl ⟨v_script, (3 : Int), h15, rfl, rfl⟩) ex_int ⟨by decide, by decide⟩)) h16 sc_law_listed.nd (fun _ => rfl) (fun v_cell hk => ?_)
  obtain ⟨h13, h14⟩ := hk
  refine run_gd (fun x : (List Str) => .rt (.ol (List.map Dt.str x)) none) (List.map (fun v_item : Nat => (itm v_pool_here ((m_law_mix v_cell ((v_item : Int))) % ((v_pool_here).length : Int)))) (List.range (Int.toNat (v_cell % (31 : Int))))) (cond (v_way == (2 : Int)) (List.map (fun v_item_5 : (Int × Str) => v_item_5.2) (List.mergeSort (List.map (fun v_item_4 : (Nat × Str) => ((m_law_mix v_cell ((v_item_4.1 : Int))), v_item_4.2)) (enum (sortT (List.map Prod.fst v_ranks)))) leIS)) (List.map (fun v_item_10 : (Int × Str) => v_item_10.2) (List.mergeSort (List.map (fun v_item_9 : (Str × Int) => (v_item_9.2, v_item_9.1)) v_ranks) leIS))) (fun _ h => nomatch h) (eb_cmp says_eqI (xv 3 rfl) ex_int) (fun hb => ?_) (fun hb => ?_)
  · have hk := h13 hb
    obtain ⟨h1, h2, h3⟩ := hk
    exact run_retN (EN.isL (x_lc (own := [("_law_j", 6)]) (fun i : Nat => Dt.int (i : Int)) (fun v_item : Nat => [Zf (e3_scr v_script), Zf (e2_list v_pool_here), Zf (e6_dict v_ranks), Zf (Dt.int v_way), Zf (Dt.int v_cell), none, Zf (Dt.int (v_item : Int)), none, none, none]) (fun v_item : Nat => true) (fun v_item : Nat => (Dt.str (itm v_pool_here ((m_law_mix v_cell ((v_item : Int))) % ((v_pool_here).length : Int))))) (fun _ => rfl) (fun _ => sc_law_listed.nd) (src_range1 (fun _ => rfl) (fun _ => T.n_range) (ex_mod (xv 4 rfl) ex_int (by decide)) h1.1 h1.2) h2 (fun _ => blkOk_by (by decide +kernel : blkC ["_law_script", "_law_pool_here", "_law_ranks", "_law_way", "_law_cell", "_law_pair", "_law_j", "_law_head", "_law_rank", "_law_q"] (defScope s_law_listed) _ [("_law_j", 6)] = true)) (by decide) (fun _ => (pg_name (i := 6) sc_law_listed.nd rfl (by first | exact Or.inl rfl | exact Or.inr rfl))) (fun _ => (bd_name (Nat.blt_eq.mp rfl))) ⟨tYes, fun _ => pts_nil, fun _ _ F H σ fps Q E q => q F H (Up.refl E.sub)⟩ (fun v_item hm hp => (x_ix Dt.str (fun _ => rfl) (EX.esL (xv 1 rfl)) (ex_mod (ex_call c_law_mix (fun _ => ⟨rfl, rfl, rfl, rfl, rfl⟩) (fun _ => hr.mono (by decide)) (fun _ => rfl) (ea_cons (xv 4 rfl) (ea_cons (xv 6 rfl) ea_nil)) rfl ⟨v_cell, (v_item : Int), (h3 v_item hm).1, rfl, rfl⟩) (x_len Dt.str (fun _ => rfl) (EX.esL (xv 1 rfl)) (fun _ => rfl) (fun _ => T.n_len)) (h3 v_item hm).2.1) (h3 v_item hm).2.2))) (lcM_enc Dt.str (fun v_item : Nat => (itm v_pool_here ((m_law_mix v_cell ((v_item : Int))) % ((v_pool_here).length : Int)))) (List.range (Int.toNat (v_cell % (31 : Int))))))
  · have hk := h14 hb
    obtain ⟨h11, h12⟩ := hk
    refine run_gd (fun x : (List Str) => .rt (.ol (List.map Dt.str x)) none) (List.map (fun v_item_5 : (Int × Str) => v_item_5.2) (List.mergeSort (List.map (fun v_item_4 : (Nat × Str) => ((m_law_mix v_cell ((v_item_4.1 : Int))), v_item_4.2)) (enum (sortT (List.map Prod.fst v_ranks)))) leIS)) (List.map (fun v_item_10 : (Int × Str) => v_item_10.2) (List.mergeSort (List.map (fun v_item_9 : (Str × Int) => (v_item_9.2, v_item_9.1)) v_ranks) leIS)) (fun _ h => nomatch h) (eb_cmp says_eqI (xv 3 rfl) ex_int) (fun hb => ?_) (fun hb => ?_)
    · have hk := h11 hb
      obtain ⟨h4, h5, h6, h7⟩ := hk
      exact run_retN (EN.isL (x_lc (own := [("_law_pair", 5)]) e12_tup (fun v_item_5 : (Int × Str) => [Zf (e3_scr v_script), Zf (e2_list v_pool_here), Zf (e6_dict v_ranks), Zf (Dt.int v_way), Zf (Dt.int v_cell), Zf (e12_tup v_item_5), none, none, none, none]) (fun v_item_5 : (Int × Str) => true) (fun v_item_5 : (Int × Str) => (Dt.str v_item_5.2)) (fun _ => rfl) (fun _ => sc_law_listed.nd) (src_list (fun _ => rfl) (EN.frz (x_sortG (f := e12_tup) sot_is (fun _ => units_of hr) (fun _ => rfl) (EN.es (EN.isL (x_lc (own := [("_law_j", 6), ("_law_q", 9)]) (fun z : (Nat × Str) => Dt.tup [Dt.int (z.1 : Int), (Dt.str z.2)]) (fun v_item_4 : (Nat × Str) => [Zf (e3_scr v_script), Zf (e2_list v_pool_here), Zf (e6_dict v_ranks), Zf (Dt.int v_way), Zf (Dt.int v_cell), none, Zf (Dt.int (v_item_4.1 : Int)), none, none, Zf (Dt.str v_item_4.2)]) (fun v_item_4 : (Nat × Str) => true) (fun v_item_4 : (Nat × Str) => (e12_tup ((m_law_mix v_cell ((v_item_4.1 : Int))), v_item_4.2))) (fun _ => rfl) (fun _ => sc_law_listed.nd) (x_enum Dt.str (fun _ => rfl) (fun _ => rfl) (fun _ => T.n_enumerate) (EN.frz (x_sortKS (b := Dt.int) (fun _ => rfl) (fun _ => units_of hr) (fun _ => rfl) (EX.ed (xv 2 rfl)) (fun _ => rfl) (fun _ => T.n_sorted)) rfl)) h4 (fun _ => blkOk_by (by decide +kernel : blkC ["_law_script", "_law_pool_here", "_law_ranks", "_law_way", "_law_cell", "_law_pair", "_law_j", "_law_head", "_law_rank", "_law_q"] (defScope s_law_listed) _ [("_law_j", 6), ("_law_q", 9)] = true)) (by decide) (fun _ => (pg_tup (n := 2) rfl (pgs_cons (pg_name (i := 6) sc_law_listed.nd rfl (by first | exact Or.inl rfl | exact Or.inr rfl)) (pgs_cons (pg_name (i := 9) sc_law_listed.nd rfl (by first | exact Or.inl rfl | exact Or.inr rfl)) pgs_nil)))) (fun _ => (bd_tup (bdl_cons (bd_name (Nat.blt_eq.mp rfl)) (bdl_cons (bd_name (Nat.blt_eq.mp rfl)) bdl_nil)) rfl)) ⟨tYes, fun _ => pts_nil, fun _ _ F H σ fps Q E q => q F H (Up.refl E.sub)⟩ (fun v_item_4 hm hp => (ex_tup (ea_cons (ex_call c_law_mix (fun _ => ⟨rfl, rfl, rfl, rfl, rfl⟩) (fun _ => hr.mono (by decide)) (fun _ => rfl) (ea_cons (xv 4 rfl) (ea_cons (xv 6 rfl) ea_nil)) rfl ⟨v_cell, (v_item_4.1 : Int), (h5 v_item_4 hm), rfl, rfl⟩) (ea_cons (xv 9 rfl) ea_nil)) (Nat.le_of_ble_eq_true rfl)))) (lcM_enc e12_tup (fun v_item_4 : (Nat × Str) => ((m_law_mix v_cell ((v_item_4.1 : Int))), v_item_4.2)) (enum (sortT (List.map Prod.fst v_ranks)))))) h6 (fun _ => rfl) (fun _ => T.n_sorted)) rfl)) h7 (fun _ => blkOk_by (by decide +kernel : blkC ["_law_script", "_law_pool_here", "_law_ranks", "_law_way", "_law_cell", "_law_pair", "_law_j", "_law_head", "_law_rank", "_law_q"] (defScope s_law_listed) _ [("_law_pair", 5)] = true)) (by decide) (fun _ => (pg_name (i := 5) sc_law_listed.nd rfl (by first | exact Or.inl rfl | exact Or.inr rfl))) (fun _ => (bd_name (Nat.blt_eq.mp rfl))) ⟨tYes, fun _ => pts_nil, fun _ _ F H σ fps Q E q => q F H (Up.refl E.sub)⟩ (fun v_item_5 hm hp => (x_ixT (d := (Dt.str v_item_5.2)) (fun _ => rfl) (EX.esT (xv 5 rfl)) ex_int))) (lcM_enc Dt.str (fun v_item_5 : (Int × Str) => v_item_5.2) (List.mergeSort (List.map (fun v_item_4 : (Nat × Str) => ((m_law_mix v_cell ((v_item_4.1 : Int))), v_item_4.2)) (enum (sortT (List.map Prod.fst v_ranks)))) leIS)))
    · have hk := h12 hb
      obtain ⟨h8, h9, h10⟩ := hk
      exact run_retN (EN.isL (x_lc (own := [("_law_pair", 5)]) e12_tup (fun v_item_10 : (Int × Str) => [Zf (e3_scr v_script), Zf (e2_list v_pool_here), Zf (e6_dict v_ranks), Zf (Dt.int v_way), Zf (Dt.int v_cell), Zf (e12_tup v_item_10), none, none, none, none]) (fun v_item_10 : (Int × Str) => true) (fun v_item_10 : (Int × Str) => (Dt.str v_item_10.2)) (fun _ => rfl) (fun _ => sc_law_listed.nd) (src_list (fun _ => rfl) (EN.frz (x_sortG (f := e12_tup) sot_is (fun _ => units_of hr) (fun _ => rfl) (EN.es (EN.isL (x_lcD 2 rfl (own := [("_law_head", 7), ("_law_rank", 8)]) (fun z : (Str × Int) => Dt.tup [(Dt.str z.1), (Dt.int z.2)]) (fun v_item_9 : (Str × Int) => [Zf (e3_scr v_script), Zf (e2_list v_pool_here), Zf (e6_dict v_ranks), Zf (Dt.int v_way), Zf (Dt.int v_cell), none, none, Zf (Dt.str v_item_9.1), Zf (Dt.int v_item_9.2), none]) (fun v_item_9 : (Str × Int) => true) (fun v_item_9 : (Str × Int) => (e12_tup (v_item_9.2, v_item_9.1))) (fun _ => rfl) (fun _ => sc_law_listed.nd) (src_items (f := Dt.int) (fk := Dt.str) 2 rfl (fun _ => rfl)) h8 (fun _ => blkOk_by (by decide +kernel : blkC ["_law_script", "_law_pool_here", "_law_ranks", "_law_way", "_law_cell", "_law_pair", "_law_j", "_law_head", "_law_rank", "_law_q"] (defScope s_law_listed) _ [("_law_head", 7), ("_law_rank", 8)] = true)) (by decide) (fun _ => (pg_tup (n := 2) rfl (pgs_cons (pg_name (i := 7) sc_law_listed.nd rfl (by first | exact Or.inl rfl | exact Or.inr rfl)) (pgs_cons (pg_name (i := 8) sc_law_listed.nd rfl (by first | exact Or.inl rfl | exact Or.inr rfl)) pgs_nil)))) (fun _ => (bd_tup (bdl_cons (bd_name (Nat.blt_eq.mp rfl)) (bdl_cons (bd_name (Nat.blt_eq.mp rfl)) bdl_nil)) rfl)) ⟨tYes, fun _ => pts_nil, fun _ _ F H σ fps Q E q => q F H (Up.refl E.sub)⟩ (fun v_item_9 hm hp => (ex_tup (ea_cons (xv 8 rfl) (ea_cons (xv 7 rfl) ea_nil)) (Nat.le_of_ble_eq_true rfl)))) (lcM_enc e12_tup (fun v_item_9 : (Str × Int) => (v_item_9.2, v_item_9.1)) v_ranks))) h9 (fun _ => rfl) (fun _ => T.n_sorted)) rfl)) h10 (fun _ => blkOk_by (by decide +kernel : blkC ["_law_script", "_law_pool_here", "_law_ranks", "_law_way", "_law_cell", "_law_pair", "_law_j", "_law_head", "_law_rank", "_law_q"] (defScope s_law_listed) _ [("_law_pair", 5)] = true)) (by decide) (fun _ => (pg_name (i := 5) sc_law_listed.nd rfl (by first | exact Or.inl rfl | exact Or.inr rfl))) (fun _ => (bd_name (Nat.blt_eq.mp rfl))) ⟨tYes, fun _ => pts_nil, fun _ _ F H σ fps Q E q => q F H (Up.refl E.sub)⟩ (fun v_item_10 hm hp => (x_ixT (d := (Dt.str v_item_10.2)) (fun _ => rfl) (EX.esT (xv 5 rfl)) ex_int))) (lcM_enc Dt.str (fun v_item_10 : (Int × Str) => v_item_10.2) (List.mergeSort (List.map (fun v_item_9 : (Str × Int) => (v_item_9.2, v_item_9.1)) v_ranks) leIS)))
theorem ok_law_listed (T : Txt K mg) (c_law_cell_at : Callee P w K mg base "_law_cell_at" 1 2 r_law_cell_at) (c_law_mix : Callee P w K mg base "_law_mix" 1 2 r_law_mix) {f : Addr} {fd : FuncData} (F : FunD K "_law_listed" "_law_listed" (defArgs s_law_listed) (defBody s_law_listed) (defScope s_law_listed) [] [] f fd) : FnOk P w K mg base (L2.CX P w) 2 f fd ["_law_script", "_law_pool_here", "_law_ranks"] (spR K 3 r_law_listed) :=
  fnOk_mk F sc_law_listed (fun cdv A outer s H E ds a hr hR hn => by
    obtain ⟨v_script, v_pool_here, v_ranks, hk, rfl, rfl⟩ := hR
    exact ⟨_, .rt _, run_law_listed T c_law_cell_at c_law_mix hr v_script v_pool_here v_ranks hk⟩)
theorem mk_law_listed (T : Txt K mg) (c_law_cell_at : Callee P w K mg base "_law_cell_at" 1 2 r_law_cell_at) (c_law_mix : Callee P w K mg base "_law_mix" 1 2 r_law_mix) {f : Addr} {fd : FuncData} (F : FunD K "_law_listed" "_law_listed" (defArgs s_law_listed) (defBody s_law_listed) (defScope s_law_listed) [] [] f fd) {x : Str} (gf : mg x = some (.ref f)) : Callee P w K mg base x 2 3 r_law_listed :=
  ⟨f, fd, ["_law_script", "_law_pool_here", "_law_ranks"], ok_law_listed T c_law_cell_at c_law_mix F, gf, F.kp, FunD.bindsN F fun _ _ _ _ _ _ us hl => match us, hl with | [_, _, _], _ => rfl⟩
end
/-! law_spoilt -/
def m_law_spoilt_1 (v_pool_here : (List Str)) (v_some : (List Str)) (v_way : Int) (v_at : Int) (v_one : Int) : (List Str) := (cond (v_way == (1 : Int)) ((cut v_some none (some v_at)) ++ (cut v_some (some (v_at + (1 : Int))) none)) (cond (v_way == (2 : Int)) (((cut v_some none (some v_at)) ++ [(itm v_pool_here (v_one % ((v_pool_here).length : Int)))]) ++ (cut v_some (some v_at) none)) (cond ((v_way == (3 : Int)) && (!(v_some == []))) (((cut v_some none (some v_at)) ++ [(itm v_some (v_one % ((v_some).length : Int)))]) ++ (cut v_some (some v_at) none)) (cond (v_way == (5 : Int)) (((cut v_some none (some v_at)) ++ [(itm [(Str.ofString ""), (Str.ofString "p("), (Str.ofString "P"), (Str.ofString "-"), (Str.ofString "p(A)"), (Str.ofString "a b")] (v_one % (6 : Int)))]) ++ (cut v_some (some v_at) none)) (cond (v_way == (4 : Int)) (((cut v_some none (some v_at)) ++ (List.reverse (cut v_some (some v_at) (some (v_at + (2 : Int)))))) ++ (cut v_some (some (v_at + (2 : Int))) none)) v_some)))))
def k_law_spoilt_1 (v_pool_here : (List Str)) (v_some : (List Str)) (v_way : Int) (v_at : Int) (v_one : Int) : Prop := (((v_way == (1 : Int)) = true → (((cut v_some none (some v_at))).length + ((cut v_some (some (v_at + (1 : Int))) none)).length ≤ big)) ∧ ((v_way == (1 : Int)) = false → (((v_way == (2 : Int)) = true → (((0 : Int) < ((v_pool_here).length : Int)) ∧ (inI v_pool_here (v_one % ((v_pool_here).length : Int)) = true) ∧ (((cut v_some none (some v_at))).length + ([(itm v_pool_here (v_one % ((v_pool_here).length : Int)))]).length ≤ big) ∧ ((((cut v_some none (some v_at)) ++ [(itm v_pool_here (v_one % ((v_pool_here).length : Int)))])).length + ((cut v_some (some v_at) none)).length ≤ big))) ∧ ((v_way == (2 : Int)) = false → ((((v_way == (3 : Int)) && (!(v_some == []))) = true → (((0 : Int) < ((v_some).length : Int)) ∧ (inI v_some (v_one % ((v_some).length : Int)) = true) ∧ (((cut v_some none (some v_at))).length + ([(itm v_some (v_one % ((v_some).length : Int)))]).length ≤ big) ∧ ((((cut v_some none (some v_at)) ++ [(itm v_some (v_one % ((v_some).length : Int)))])).length + ((cut v_some (some v_at) none)).length ≤ big))) ∧ (((v_way == (3 : Int)) && (!(v_some == []))) = false → (((v_way == (5 : Int)) = true → ((inI [(Str.ofString ""), (Str.ofString "p("), (Str.ofString "P"), (Str.ofString "-"), (Str.ofString "p(A)"), (Str.ofString "a b")] (v_one % (6 : Int)) = true) ∧ (((cut v_some none (some v_at))).length + ([(itm [(Str.ofString ""), (Str.ofString "p("), (Str.ofString "P"), (Str.ofString "-"), (Str.ofString "p(A)"), (Str.ofString "a b")] (v_one % (6 : Int)))]).length ≤ big) ∧ ((((cut v_some none (some v_at)) ++ [(itm [(Str.ofString ""), (Str.ofString "p("), (Str.ofString "P"), (Str.ofString "-"), (Str.ofString "p(A)"), (Str.ofString "a b")] (v_one % (6 : Int)))])).length + ((cut v_some (some v_at) none)).length ≤ big))) ∧ ((v_way == (5 : Int)) = false → ((v_way == (4 : Int)) = true → ((((cut v_some none (some v_at))).length + ((List.reverse (cut v_some (some v_at) (some (v_at + (2 : Int)))))).length ≤ big) ∧ ((((cut v_some none (some v_at)) ++ (List.reverse (cut v_some (some v_at) (some (v_at + (2 : Int))))))).length + ((cut v_some (some (v_at + (2 : Int))) none)).length ≤ big)))))))))))
def m_law_spoilt_2 (v_script : (List Int)) (v_pool_here : (List Str)) (v_some : (List Str)) (v_way : Int) (v_at : Int) : (List Str) := (m_law_spoilt_1 v_pool_here v_some v_way v_at (m_law_cell_at v_script ((5 : Int))))
def k_law_spoilt_2 (v_script : (List Int)) (v_pool_here : (List Str)) (v_some : (List Str)) (v_way : Int) (v_at : Int) : Prop := ((k_law_cell_at v_script ((5 : Int))) ∧ (k_law_spoilt_1 v_pool_here v_some v_way v_at (m_law_cell_at v_script ((5 : Int)))))
def m_law_spoilt_3 (v_script : (List Int)) (v_pool_here : (List Str)) (v_some : (List Str)) (v_cell : Int) (v_way : Int) : (List Str) := (m_law_spoilt_2 v_script v_pool_here v_some v_way ((v_cell / (6 : Int)) % (((v_some).length : Int) + (1 : Int))))
def k_law_spoilt_3 (v_script : (List Int)) (v_pool_here : (List Str)) (v_some : (List Str)) (v_cell : Int) (v_way : Int) : Prop := (((0 : Int) < (((v_some).length : Int) + (1 : Int))) ∧ (k_law_spoilt_2 v_script v_pool_here v_some v_way ((v_cell / (6 : Int)) % (((v_some).length : Int) + (1 : Int)))))
def m_law_spoilt_4 (v_script : (List Int)) (v_pool_here : (List Str)) (v_some : (List Str)) (v_cell : Int) : (List Str) := (m_law_spoilt_3 v_script v_pool_here v_some v_cell (v_cell % (6 : Int)))
def k_law_spoilt_4 (v_script : (List Int)) (v_pool_here : (List Str)) (v_some : (List Str)) (v_cell : Int) : Prop := (k_law_spoilt_3 v_script v_pool_here v_some v_cell (v_cell % (6 : Int)))
def m_law_spoilt (v_script : (List Int)) (v_pool_here : (List Str)) (v_some : (List Str)) : (List Str) := (m_law_spoilt_4 v_script v_pool_here v_some (m_law_cell_at v_script ((4 : Int))))
def k_law_spoilt (v_script : (List Int)) (v_pool_here : (List Str)) (v_some : (List Str)) : Prop := ((k_law_cell_at v_script ((4 : Int))) ∧ (k_law_spoilt_4 v_script v_pool_here v_some (m_law_cell_at v_script ((4 : Int)))))
abbrev s_law_spoilt : Stmt := top 27
theorem sc_law_spoilt : FnScope ["_law_script", "_law_pool_here", "_law_some", "_law_cell", "_law_way", "_law_at", "_law_one"] ["_law_script", "_law_pool_here", "_law_some"] (defScope s_law_spoilt) := ⟨rfl, rfl, rfl, by decide +kernel, rfl, by decide +kernel, by decide +kernel⟩
def r_law_spoilt : List Dt → Sum Cell Xc → Prop := fun ds a => ∃ (v_script : (List Int)) (v_pool_here : (List Str)) (v_some : (List Str)), k_law_spoilt v_script v_pool_here v_some ∧ ds = [(e3_scr v_script), (e2_list v_pool_here), (e2_list v_some)] ∧ a = .inl (.fz (e2_list (m_law_spoilt v_script v_pool_here v_some)))
section
variable {P : Program} {w : World} {K : PySem.W.Frag} {mg : Str → Option Value} {base : Heap}
theorem run_law_spoilt (T : Txt K mg) (c_law_cell_at : Callee P w K mg base "_law_cell_at" 1 2 r_law_cell_at) {f : Addr} {cdv : Value} {A : Around} {outer : List PySem.Env} {s : Shared} {H : Hp} {E : XK} (hr : Room 1 (A.deeper (PyProof.Rows.envOfC "_law_spoilt" (defScope s_law_spoilt) s.heap.objs.size f cdv))) (v_script : (List Int)) (v_pool_here : (List Str)) (v_some : (List Str)) (hk : k_law_spoilt v_script v_pool_here v_some) :
    Run (cxOf (L2.CX P w) P w K mg base ["_law_script", "_law_pool_here", "_law_some", "_law_cell", "_law_way", "_law_at", "_law_one"] "_law_spoilt" (defScope s_law_spoilt) f cdv A outer s H E) K (wE E) sv0 (defBody s_law_spoilt) (start0 ["_law_script", "_law_pool_here", "_law_some", "_law_cell", "_law_way", "_law_at", "_law_one"] [(e3_scr v_script), (e2_list v_pool_here), (e2_list v_some)]) (.rt (.fz (e2_list (m_law_spoilt v_script v_pool_here v_some))) none) := by
  obtain ⟨h30, h31⟩ := hk
  refine run_asgE (i := 3) (m_law_cell_at v_script ((4 : Int))) (fun v_cell => .fz (Dt.int v_cell)) (fun _ => _) (fun v_cell => [Zf (e3_scr v_script), Zf (e2_list v_pool_here), Zf (e2_list v_some), Zf (Dt.int v_cell), none, none, none]) (fun v_cell => .rt (.fz (e2_list (m_law_spoilt_4 v_script v_pool_here v_some v_cell))) none) (k_law_spoilt_4 v_script v_pool_here v_some) (EX.ev (ex_call c_law_cell_at (fun _ => ⟨rfl, rfl, rfl, rfl, rfl⟩) (fun _ => hr.mono (by decide)) (fun _ => rfl) (ea_cons (xv 0 rfl) (ea_cons ex_int ea_nil)) rfl ⟨v_script, (4 : Int), h30, rfl, rfl⟩)) h31 sc_law_spoilt.nd (fun _ => rfl) (fun v_cell hk => ?_)
  have h29 := hk
  refine run_asgE (i := 4) (v_cell % (6 : Int)) (fun v_way => .fz (Dt.int v_way)) (fun _ => _) (fun v_way => [Zf (e3_scr v_script), Zf (e2_list v_pool_here), Zf (e2_list v_some), Zf (Dt.int v_cell), Zf (Dt.int v_way), none, none]) (fun v_way => .rt (.fz (e2_list (m_law_spoilt_3 v_script v_pool_here v_some v_cell v_way))) none) (k_law_spoilt_3 v_script v_pool_here v_some v_cell) (EX.ev (ex_mod (xv 3 rfl) ex_int (by decide))) h29 sc_law_spoilt.nd (fun _ => rfl) (fun v_way hk => ?_)
  obtain ⟨h27, h28⟩ := hk
  refine run_asgE (i := 5) ((v_cell / (6 : Int)) % (((v_some).length : Int) + (1 : Int))) (fun v_at => .fz (Dt.int v_at)) (fun _ => _) (fun v_at => [Zf (e3_scr v_script), Zf (e2_list v_pool_here), Zf (e2_list v_some), Zf (Dt.int v_cell), Zf (Dt.int v_way), Zf (Dt.int v_at), none]) (fun v_at => .rt (.fz (e2_list (m_law_spoilt_2 v_script v_pool_here v_some v_way v_at))) none) (k_law_spoilt_2 v_script v_pool_here v_some v_way) (EX.ev (ex_mod (ex_fdiv (xv 3 rfl) ex_int ⟨by decide, by decide⟩) (ex_add (x_len Dt.str (fun _ => rfl) (EX.esL (xv 2 rfl)) (fun _ => rfl) (fun _ => T.n_len)) ex_int) h27)) h28 sc_law_spoilt.nd (fun _ => rfl) (fun v_at hk => ?_)
  obtain ⟨h25, h26⟩ := hk
  refine run_asgE (i := 6) (m_law_cell_at v_script ((5 : Int))) (fun v_one => .fz (Dt.int v_one)) (fun _ => _) (fun v_one => [Zf (e3_scr v_script), Zf (e2_list v_pool_here), Zf (e2_list v_some), Zf (Dt.int v_cell), Zf (Dt.int v_way), Zf (Dt.int v_at), Zf (Dt.int v_one)]) (fun v_one => .rt (.fz (e2_list (m_law_spoilt_1 v_pool_here v_some v_way v_at v_one))) none) (k_law_spoilt_1 v_pool_here v_some v_way v_at) (EX.ev (ex_call c_law_cell_at (fun _ => ⟨rfl, rfl, rfl, rfl, rfl⟩) (fun _ => hr.mono (by decide)) (fun _ => rfl) (ea_cons (xv 0 rfl) (ea_cons ex_int ea_nil)) rfl ⟨v_script, (5 : Int), h25, rfl, rfl⟩)) h26 sc_law_spoilt.nd (fun _ => rfl) (fun v_one hk => ?_)
  obtain ⟨h23, h24⟩ := hk
  refine run_gd (fun x : (List Str) => .rt (.fz (e2_list x)) none) ((cut v_some none (some v_at)) ++ (cut v_some (some (v_at + (1 : Int))) none)) (cond (v_way == (2 : Int)) (((cut v_some none (some v_at)) ++ [(itm v_pool_here (v_one % ((v_pool_here).length : Int)))]) ++ (cut v_some (some v_at) none)) (cond ((v_way == (3 : Int)) && (!(v_some == []))) (((cut v_some none (some v_at)) ++ [(itm v_some (v_one % ((v_some).length : Int)))]) ++ (cut v_some (some v_at) none)) (cond (v_way == (5 : Int)) (((cut v_some none (some v_at)) ++ [(itm [(Str.ofString ""), (Str.ofString "p("), (Str.ofString "P"), (Str.ofString "-"), (Str.ofString "p(A)"), (Str.ofString "a b")] (v_one % (6 : Int)))]) ++ (cut v_some (some v_at) none)) (cond (v_way == (4 : Int)) (((cut v_some none (some v_at)) ++ (List.reverse (cut v_some (some v_at) (some (v_at + (2 : Int)))))) ++ (cut v_some (some (v_at + (2 : Int))) none)) v_some)))) (fun _ h => nomatch h) (eb_cmp says_eqI (xv 4 rfl) ex_int) (fun hb => ?_) (fun hb => ?_)
  · have hk := h23 hb
    have h1 := hk
    exact run_ret (EN.frz (x_catL Dt.str (EN.frz (x_sliceL Dt.str (fun _ => rfl) (EX.esL (xv 2 rfl)) eo_none (eo_some (xv 5 rfl))) rfl) (EN.frz (x_sliceL Dt.str (fun _ => rfl) (EX.esL (xv 2 rfl)) (eo_some (ex_add (xv 5 rfl) ex_int)) eo_none) rfl) h1) rfl)
  · have hk := h24 hb
    obtain ⟨h21, h22⟩ := hk
    refine run_gd (fun x : (List Str) => .rt (.fz (e2_list x)) none) (((cut v_some none (some v_at)) ++ [(itm v_pool_here (v_one % ((v_pool_here).length : Int)))]) ++ (cut v_some (some v_at) none)) (cond ((v_way == (3 : Int)) && (!(v_some == []))) (((cut v_some none (some v_at)) ++ [(itm v_some (v_one % ((v_some).length : Int)))]) ++ (cut v_some (some v_at) none)) (cond (v_way == (5 : Int)) (((cut v_some none (some v_at)) ++ [(itm [(Str.ofString ""), (Str.ofString "p("), (Str.ofString "P"), (Str.ofString "-"), (Str.ofString "p(A)"), (Str.ofString "a b")] (v_one % (6 : Int)))]) ++ (cut v_some (some v_at) none)) (cond (v_way == (4 : Int)) (((cut v_some none (some v_at)) ++ (List.reverse (cut v_some (some v_at) (some (v_at + (2 : Int)))))) ++ (cut v_some (some (v_at + (2 : Int))) none)) v_some))) (fun _ h => nomatch h) (eb_cmp says_eqI (xv 4 rfl) ex_int) (fun hb => ?_) (fun hb => ?_)
    · have hk := h21 hb
      obtain ⟨h2, h3, h4, h5⟩ := hk
      exact run_ret (EN.frz (x_catL Dt.str (EN.frz (x_catL Dt.str (EN.frz (x_sliceL Dt.str (fun _ => rfl) (EX.esL (xv 2 rfl)) eo_none (eo_some (xv 5 rfl))) rfl) (EN.frz (en_lst (ea_cons (x_ix Dt.str (fun _ => rfl) (EX.esL (xv 1 rfl)) (ex_mod (xv 6 rfl) (x_len Dt.str (fun _ => rfl) (EX.esL (xv 1 rfl)) (fun _ => rfl) (fun _ => T.n_len)) h2) h3) ea_nil) (Nat.le_of_ble_eq_true rfl)) rfl) h4) rfl) (EN.frz (x_sliceL Dt.str (fun _ => rfl) (EX.esL (xv 2 rfl)) (eo_some (xv 5 rfl)) eo_none) rfl) h5) rfl)
    · have hk := h22 hb
      obtain ⟨h18, h19⟩ := hk
      refine run_gd (fun x : (List Str) => .rt (.fz (e2_list x)) none) (((cut v_some none (some v_at)) ++ [(itm v_some (v_one % ((v_some).length : Int)))]) ++ (cut v_some (some v_at) none)) (cond (v_way == (5 : Int)) (((cut v_some none (some v_at)) ++ [(itm [(Str.ofString ""), (Str.ofString "p("), (Str.ofString "P"), (Str.ofString "-"), (Str.ofString "p(A)"), (Str.ofString "a b")] (v_one % (6 : Int)))]) ++ (cut v_some (some v_at) none)) (cond (v_way == (4 : Int)) (((cut v_some none (some v_at)) ++ (List.reverse (cut v_some (some v_at) (some (v_at + (2 : Int)))))) ++ (cut v_some (some (v_at + (2 : Int))) none)) v_some)) (fun _ h => nomatch h) (eb_w (ebw_and (eb_cmp says_eqI (xv 4 rfl) ex_int) (fun hb20 => (ebw_and1 (eb_cmp (says_neD (fun _ => units_of hr) (fun _ => rfl) (EqT.d (f := e2_list) (eqt_lst eqt_str) (by decide) v_some [])) (xv 2 rfl) (EN.frz (en_lst ea_nil (Nat.le_of_ble_eq_true rfl)) rfl)))))) (fun hb => ?_) (fun hb => ?_)
      · have hk := h18 hb
        obtain ⟨h6, h7, h8, h9⟩ := hk
        exact run_ret (EN.frz (x_catL Dt.str (EN.frz (x_catL Dt.str (EN.frz (x_sliceL Dt.str (fun _ => rfl) (EX.esL (xv 2 rfl)) eo_none (eo_some (xv 5 rfl))) rfl) (EN.frz (en_lst (ea_cons (x_ix Dt.str (fun _ => rfl) (EX.esL (xv 2 rfl)) (ex_mod (xv 6 rfl) (x_len Dt.str (fun _ => rfl) (EX.esL (xv 2 rfl)) (fun _ => rfl) (fun _ => T.n_len)) h6) h7) ea_nil) (Nat.le_of_ble_eq_true rfl)) rfl) h8) rfl) (EN.frz (x_sliceL Dt.str (fun _ => rfl) (EX.esL (xv 2 rfl)) (eo_some (xv 5 rfl)) eo_none) rfl) h9) rfl)
      · have hk := h19 hb
        obtain ⟨h16, h17⟩ := hk
        refine run_gd (fun x : (List Str) => .rt (.fz (e2_list x)) none) (((cut v_some none (some v_at)) ++ [(itm [(Str.ofString ""), (Str.ofString "p("), (Str.ofString "P"), (Str.ofString "-"), (Str.ofString "p(A)"), (Str.ofString "a b")] (v_one % (6 : Int)))]) ++ (cut v_some (some v_at) none)) (cond (v_way == (4 : Int)) (((cut v_some none (some v_at)) ++ (List.reverse (cut v_some (some v_at) (some (v_at + (2 : Int)))))) ++ (cut v_some (some (v_at + (2 : Int))) none)) v_some) (fun _ h => nomatch h) (eb_cmp says_eqI (xv 4 rfl) ex_int) (fun hb => ?_) (fun hb => ?_)
        · have hk := h16 hb
          obtain ⟨h10, h11, h12⟩ := hk
          exact run_ret (EN.frz (x_catL Dt.str (EN.frz (x_catL Dt.str (EN.frz (x_sliceL Dt.str (fun _ => rfl) (EX.esL (xv 2 rfl)) eo_none (eo_some (xv 5 rfl))) rfl) (EN.frz (en_lst (ea_cons (x_ix Dt.str (fun _ => rfl) (EN.es (en_lst (ea_cons (ex_str (h := by decide +kernel)) (ea_cons (ex_str (h := by decide +kernel)) (ea_cons (ex_str (h := by decide +kernel)) (ea_cons (ex_str (h := by decide +kernel)) (ea_cons (ex_str (h := by decide +kernel)) (ea_cons (ex_str (h := by decide +kernel)) ea_nil)))))) (Nat.le_of_ble_eq_true rfl))) (ex_mod (xv 6 rfl) ex_int (by decide)) h10) ea_nil) (Nat.le_of_ble_eq_true rfl)) rfl) h11) rfl) (EN.frz (x_sliceL Dt.str (fun _ => rfl) (EX.esL (xv 2 rfl)) (eo_some (xv 5 rfl)) eo_none) rfl) h12) rfl)
        · have hk := h17 hb
          have h15 := hk
          refine run_gd (fun x : (List Str) => .rt (.fz (e2_list x)) none) (((cut v_some none (some v_at)) ++ (List.reverse (cut v_some (some v_at) (some (v_at + (2 : Int)))))) ++ (cut v_some (some (v_at + (2 : Int))) none)) v_some (fun _ h => nomatch h) (eb_cmp says_eqI (xv 4 rfl) ex_int) (fun hb => ?_) (fun hb => ?_)
          · have hk := h15 hb
            obtain ⟨h13, h14⟩ := hk
            exact run_ret (EN.frz (x_catL Dt.str (EN.frz (x_catL Dt.str (EN.frz (x_sliceL Dt.str (fun _ => rfl) (EX.esL (xv 2 rfl)) eo_none (eo_some (xv 5 rfl))) rfl) (EN.frz (x_listRev Dt.str (fun _ => rfl) (fun _ => rfl) (EN.es (x_sliceL Dt.str (fun _ => rfl) (EX.esL (xv 2 rfl)) (eo_some (xv 5 rfl)) (eo_some (ex_add (xv 5 rfl) ex_int)))) (fun _ => rfl) (fun _ => T.n_list) (fun _ => rfl) (fun _ => T.n_reversed)) rfl) h13) rfl) (EN.frz (x_sliceL Dt.str (fun _ => rfl) (EX.esL (xv 2 rfl)) (eo_some (ex_add (xv 5 rfl) ex_int)) eo_none) rfl) h14) rfl)
          · exact run_ret (xv 2 rfl)
theorem ok_law_spoilt (T : Txt K mg) (c_law_cell_at : Callee P w K mg base "_law_cell_at" 1 2 r_law_cell_at) {f : Addr} {fd : FuncData} (F : FunD K "_law_spoilt" "_law_spoilt" (defArgs s_law_spoilt) (defBody s_law_spoilt) (defScope s_law_spoilt) [] [] f fd) : FnOk P w K mg base (L2.CX P w) 2 f fd ["_law_script", "_law_pool_here", "_law_some"] (spR K 3 r_law_spoilt) :=
  fnOk_mk F sc_law_spoilt (fun cdv A outer s H E ds a hr hR hn => by
    obtain ⟨v_script, v_pool_here, v_some, hk, rfl, rfl⟩ := hR
    exact ⟨_, .rt _, run_law_spoilt T c_law_cell_at hr v_script v_pool_here v_some hk⟩)
theorem mk_law_spoilt (T : Txt K mg) (c_law_cell_at : Callee P w K mg base "_law_cell_at" 1 2 r_law_cell_at) {f : Addr} {fd : FuncData} (F : FunD K "_law_spoilt" "_law_spoilt" (defArgs s_law_spoilt) (defBody s_law_spoilt) (defScope s_law_spoilt) [] [] f fd) {x : Str} (gf : mg x = some (.ref f)) : Callee P w K mg base x 2 3 r_law_spoilt :=
  ⟨f, fd, ["_law_script", "_law_pool_here", "_law_some"], ok_law_spoilt T c_law_cell_at F, gf, F.kp, FunD.bindsN F fun _ _ _ _ _ _ us hl => match us, hl with | [_, _, _], _ => rfl⟩
end
/-! Ground_ruling -/
def m_Ground_ruling (v_self : (Nat × (List (Nat × Str × Str × (List Str))) × (List (Str × Str)) × (List ((Str × Str) × Bool)) × (List (Str × (List (Nat × Str × Str × (List Str))))))) (v_statement : Str) : (List (Nat × Str × Str × (List Str))) := (Option.getD (gets v_self.2.2.2.2 v_statement) [])
abbrev s_Ground_ruling : Stmt := sub (top 14) 2
theorem sc_Ground_ruling : FnScope ["self", "statement"] ["self", "statement"] (defScope s_Ground_ruling) := ⟨rfl, rfl, rfl, by decide +kernel, rfl, by decide +kernel, by decide +kernel⟩
def r_Ground_ruling : List Dt → Sum Cell Xc → Prop := fun ds a => ∃ (v_self : (Nat × (List (Nat × Str × Str × (List Str))) × (List (Str × Str)) × (List ((Str × Str) × Bool)) × (List (Str × (List (Nat × Str × Str × (List Str))))))) (v_statement : Str), ds = [(enc_Ground v_self), (Dt.str v_statement)] ∧ a = .inl (.ol (List.map enc_Rule (m_Ground_ruling v_self v_statement)))
section
variable {P : Program} {w : World} {K : PySem.W.Frag} {mg : Str → Option Value} {base : Heap}
theorem run_Ground_ruling (T : Txt K mg)  {f : Addr} {cdv : Value} {A : Around} {outer : List PySem.Env} {s : Shared} {H : Hp} {E : XK} (hr : Room 0 (A.deeper (PyProof.Rows.envOfC "Ground.ruling" (defScope s_Ground_ruling) s.heap.objs.size f cdv))) (v_self : (Nat × (List (Nat × Str × Str × (List Str))) × (List (Str × Str)) × (List ((Str × Str) × Bool)) × (List (Str × (List (Nat × Str × Str × (List Str))))))) (v_statement : Str) :
    Run (cxOf (L2.CX P w) P w K mg base ["self", "statement"] "Ground.ruling" (defScope s_Ground_ruling) f cdv A outer s H E) K (wE E) sv0 (defBody s_Ground_ruling) (start0 ["self", "statement"] [(enc_Ground v_self), (Dt.str v_statement)]) (.rt (.ol (List.map enc_Rule (m_Ground_ruling v_self v_statement))) none) := by
  exact run_retN (en_list (fun _ => rfl) (EX.esL (x_get2 (g := Sum.inr) e7_list (fun _ _ h => Sum.inr.inj h) (keyS _) (fun _ => units_of hr) (EX.ed (ex_fld (fun _ => rfl) (T.cl_Ground _) (T.na_Ground_heads _) (xv 0 rfl) (lk_Ground_heads _))) (xv 1 rfl) (EN.frz (en_lst ea_nil (Nat.le_of_ble_eq_true rfl)) rfl))) (fun _ => rfl) (fun _ => T.n_list))
theorem ok_Ground_ruling (T : Txt K mg)  {f : Addr} {fd : FuncData} (F : FunD K "ruling" "Ground.ruling" (defArgs s_Ground_ruling) (defBody s_Ground_ruling) (defScope s_Ground_ruling) [] [] f fd) : FnOk P w K mg base (L2.CX P w) 1 f fd ["self", "statement"] (spR K 2 r_Ground_ruling) :=
  fnOk_mk F sc_Ground_ruling (fun cdv A outer s H E ds a hr hR hn => by
    obtain ⟨v_self, v_statement, rfl, rfl⟩ := hR
    exact ⟨_, .rt _, run_Ground_ruling T  hr v_self v_statement⟩)
theorem mk_Ground_ruling (T : Txt K mg)  {f : Addr} {fd : FuncData} (F : FunD K "ruling" "Ground.ruling" (defArgs s_Ground_ruling) (defBody s_Ground_ruling) (defScope s_Ground_ruling) [] [] f fd) {C : Str} (M : Meth K (He.ga K C) "ruling" f) : CalleeM P w K mg base C "ruling" 1 2 r_Ground_ruling :=
  ⟨f, fd, ["self", "statement"], ok_Ground_ruling T  F, M, FunD.bindsN F fun _ _ _ _ _ _ us hl => match us, hl with | [_, _], _ => rfl⟩
end
/-! d_Ground_ruling -/
def m_d_Ground_ruling (z : (Nat × (List (Nat × Str × Str × (List Str))) × (List (Str × Str)) × (List ((Str × Str) × Bool)) × (List (Str × (List (Nat × Str × Str × (List Str))))))) (a0 : Str) : (List (Nat × Str × Str × (List Str))) := match z.1 with
  | _ => m_Ground_ruling z a0
def rr_d_Ground_ruling : Nat → List Dt → Sum Cell Xc → Prop := fun k => match k with
  | _ => r_Ground_ruling
theorem dd_d_Ground_ruling (z : (Nat × (List (Nat × Str × Str × (List Str))) × (List (Str × Str)) × (List ((Str × Str) × Bool)) × (List (Str × (List (Nat × Str × Str × (List Str))))))) (a0 : Str) : rr_d_Ground_ruling z.1 [(enc_Ground z), (Dt.str a0)] (.inl (.ol (List.map enc_Rule (m_d_Ground_ruling z a0)))) := by
  obtain ⟨k, z⟩ := z
  rcases k with k
  · exact ⟨(k, z), a0, rfl, rfl⟩
/-! Fact_is_sure -/
def m_Fact_is_sure (v_self : (Nat × Str × Str × (List Str))) : Bool := true
abbrev s_Fact_is_sure : Stmt := sub (top 9) 2
theorem sc_Fact_is_sure : FnScope ["self"] ["self"] (defScope s_Fact_is_sure) := ⟨rfl, rfl, rfl, by decide +kernel, rfl, by decide +kernel, by decide +kernel⟩
def r_Fact_is_sure : List Dt → Sum Cell Xc → Prop := fun ds a => ∃ (v_self : (Nat × Str × Str × (List Str))), ds = [(enc_Rule v_self)] ∧ a = .inl (.fz (Dt.bl (m_Fact_is_sure v_self)))
section
variable {P : Program} {w : World} {K : PySem.W.Frag} {mg : Str → Option Value} {base : Heap}
theorem run_Fact_is_sure (T : Txt K mg)  {f : Addr} {cdv : Value} {A : Around} {outer : List PySem.Env} {s : Shared} {H : Hp} {E : XK} (hr : Room 0 (A.deeper (PyProof.Rows.envOfC "Fact.is_sure" (defScope s_Fact_is_sure) s.heap.objs.size f cdv))) (v_self : (Nat × Str × Str × (List Str))) :
    Run (cxOf (L2.CX P w) P w K mg base ["self"] "Fact.is_sure" (defScope s_Fact_is_sure) f cdv A outer s H E) K (wE E) sv0 (defBody s_Fact_is_sure) (start0 ["self"] [(enc_Rule v_self)]) (.rt (.fz (Dt.bl (m_Fact_is_sure v_self))) none) := by
  exact run_ret ex_bl
theorem ok_Fact_is_sure (T : Txt K mg)  {f : Addr} {fd : FuncData} (F : FunD K "is_sure" "Fact.is_sure" (defArgs s_Fact_is_sure) (defBody s_Fact_is_sure) (defScope s_Fact_is_sure) [] [] f fd) : FnOk P w K mg base (L2.CX P w) 1 f fd ["self"] (spR K 1 r_Fact_is_sure) :=
  fnOk_mk F sc_Fact_is_sure (fun cdv A outer s H E ds a hr hR hn => by
    obtain ⟨v_self, rfl, rfl⟩ := hR
    exact ⟨_, .rt _, run_Fact_is_sure T  hr v_self⟩)
theorem mk_Fact_is_sure (T : Txt K mg)  {f : Addr} {fd : FuncData} (F : FunD K "is_sure" "Fact.is_sure" (defArgs s_Fact_is_sure) (defBody s_Fact_is_sure) (defScope s_Fact_is_sure) [] [] f fd) {C : Str} (M : Meth K (He.ga K C) "is_sure" f) : CalleeM P w K mg base C "is_sure" 1 1 r_Fact_is_sure :=
  ⟨f, fd, ["self"], ok_Fact_is_sure T  F, M, FunD.bindsN F fun _ _ _ _ _ _ us hl => match us, hl with | [_], _ => rfl⟩
end
/-! Sure_is_sure -/
def m_Sure_is_sure (v_self : (Nat × Str × Str × (List Str))) : Bool := true
abbrev s_Sure_is_sure : Stmt := sub (top 10) 1
theorem sc_Sure_is_sure : FnScope ["self"] ["self"] (defScope s_Sure_is_sure) := ⟨rfl, rfl, rfl, by decide +kernel, rfl, by decide +kernel, by decide +kernel⟩
def r_Sure_is_sure : List Dt → Sum Cell Xc → Prop := fun ds a => ∃ (v_self : (Nat × Str × Str × (List Str))), ds = [(enc_Rule v_self)] ∧ a = .inl (.fz (Dt.bl (m_Sure_is_sure v_self)))
section
variable {P : Program} {w : World} {K : PySem.W.Frag} {mg : Str → Option Value} {base : Heap}
theorem run_Sure_is_sure (T : Txt K mg)  {f : Addr} {cdv : Value} {A : Around} {outer : List PySem.Env} {s : Shared} {H : Hp} {E : XK} (hr : Room 0 (A.deeper (PyProof.Rows.envOfC "Sure.is_sure" (defScope s_Sure_is_sure) s.heap.objs.size f cdv))) (v_self : (Nat × Str × Str × (List Str))) :
    Run (cxOf (L2.CX P w) P w K mg base ["self"] "Sure.is_sure" (defScope s_Sure_is_sure) f cdv A outer s H E) K (wE E) sv0 (defBody s_Sure_is_sure) (start0 ["self"] [(enc_Rule v_self)]) (.rt (.fz (Dt.bl (m_Sure_is_sure v_self))) none) := by
  exact run_ret ex_bl
theorem ok_Sure_is_sure (T : Txt K mg)  {f : Addr} {fd : FuncData} (F : FunD K "is_sure" "Sure.is_sure" (defArgs s_Sure_is_sure) (defBody s_Sure_is_sure) (defScope s_Sure_is_sure) [] [] f fd) : FnOk P w K mg base (L2.CX P w) 1 f fd ["self"] (spR K 1 r_Sure_is_sure) :=
  fnOk_mk F sc_Sure_is_sure (fun cdv A outer s H E ds a hr hR hn => by
    obtain ⟨v_self, rfl, rfl⟩ := hR
    exact ⟨_, .rt _, run_Sure_is_sure T  hr v_self⟩)
theorem mk_Sure_is_sure (T : Txt K mg)  {f : Addr} {fd : FuncData} (F : FunD K "is_sure" "Sure.is_sure" (defArgs s_Sure_is_sure) (defBody s_Sure_is_sure) (defScope s_Sure_is_sure) [] [] f fd) {C : Str} (M : Meth K (He.ga K C) "is_sure" f) : CalleeM P w K mg base C "is_sure" 1 1 r_Sure_is_sure :=
  ⟨f, fd, ["self"], ok_Sure_is_sure T  F, M, FunD.bindsN F fun _ _ _ _ _ _ us hl => match us, hl with | [_], _ => rfl⟩
end
/-! Rule_is_sure -/
def m_Rule_is_sure (v_self : (Nat × Str × Str × (List Str))) : Bool := false
abbrev s_Rule_is_sure : Stmt := sub (top 8) 3
theorem sc_Rule_is_sure : FnScope ["self"] ["self"] (defScope s_Rule_is_sure) := ⟨rfl, rfl, rfl, by decide +kernel, rfl, by decide +kernel, by decide +kernel⟩
def r_Rule_is_sure : List Dt → Sum Cell Xc → Prop := fun ds a => ∃ (v_self : (Nat × Str × Str × (List Str))), ds = [(enc_Rule v_self)] ∧ a = .inl (.fz (Dt.bl (m_Rule_is_sure v_self)))
section
variable {P : Program} {w : World} {K : PySem.W.Frag} {mg : Str → Option Value} {base : Heap}
theorem run_Rule_is_sure (T : Txt K mg)  {f : Addr} {cdv : Value} {A : Around} {outer : List PySem.Env} {s : Shared} {H : Hp} {E : XK} (hr : Room 0 (A.deeper (PyProof.Rows.envOfC "Rule.is_sure" (defScope s_Rule_is_sure) s.heap.objs.size f cdv))) (v_self : (Nat × Str × Str × (List Str))) :
    Run (cxOf (L2.CX P w) P w K mg base ["self"] "Rule.is_sure" (defScope s_Rule_is_sure) f cdv A outer s H E) K (wE E) sv0 (defBody s_Rule_is_sure) (start0 ["self"] [(enc_Rule v_self)]) (.rt (.fz (Dt.bl (m_Rule_is_sure v_self))) none) := by
  exact run_ret ex_bl
theorem ok_Rule_is_sure (T : Txt K mg)  {f : Addr} {fd : FuncData} (F : FunD K "is_sure" "Rule.is_sure" (defArgs s_Rule_is_sure) (defBody s_Rule_is_sure) (defScope s_Rule_is_sure) [] [] f fd) : FnOk P w K mg base (L2.CX P w) 1 f fd ["self"] (spR K 1 r_Rule_is_sure) :=
  fnOk_mk F sc_Rule_is_sure (fun cdv A outer s H E ds a hr hR hn => by
    obtain ⟨v_self, rfl, rfl⟩ := hR
    exact ⟨_, .rt _, run_Rule_is_sure T  hr v_self⟩)
theorem mk_Rule_is_sure (T : Txt K mg)  {f : Addr} {fd : FuncData} (F : FunD K "is_sure" "Rule.is_sure" (defArgs s_Rule_is_sure) (defBody s_Rule_is_sure) (defScope s_Rule_is_sure) [] [] f fd) {C : Str} (M : Meth K (He.ga K C) "is_sure" f) : CalleeM P w K mg base C "is_sure" 1 1 r_Rule_is_sure :=
  ⟨f, fd, ["self"], ok_Rule_is_sure T  F, M, FunD.bindsN F fun _ _ _ _ _ _ us hl => match us, hl with | [_], _ => rfl⟩
end
/-! d_Rule_is_sure -/
def m_d_Rule_is_sure (z : (Nat × Str × Str × (List Str))) : Bool := match z.1 with
  | 0 => m_Fact_is_sure z
  | 1 => m_Sure_is_sure z
  | 2 => m_Rule_is_sure z
  | _ => m_Rule_is_sure z
def rr_d_Rule_is_sure : Nat → List Dt → Sum Cell Xc → Prop := fun k => match k with
  | 0 => r_Fact_is_sure
  | 1 => r_Sure_is_sure
  | 2 => r_Rule_is_sure
  | _ => r_Rule_is_sure
theorem dd_d_Rule_is_sure (z : (Nat × Str × Str × (List Str))) : rr_d_Rule_is_sure z.1 [(enc_Rule z)] (.inl (.fz (Dt.bl (m_d_Rule_is_sure z)))) := by
  obtain ⟨k, z⟩ := z
  rcases k with _ | _ | _ | k
  · exact ⟨(0, z), rfl, rfl⟩
  · exact ⟨(1, z), rfl, rfl⟩
  · exact ⟨(2, z), rfl, rfl⟩
  · exact ⟨(k + 3, z), rfl, rfl⟩
/-! rests_on -/
def m_rests_on_1 (v_there : (List (Str × Bool))) (v_st : (Unit)) (v_it : Str) : Step (Unit) Bool := (cond (!hasK v_there v_it) (.fin false) (.nx ()))
def m_rests_on_2  (v_st : (Unit)) : Bool := true
def m_rests_on (v_rule : (Nat × Str × Str × (List Str))) (v_there : (List (Str × Bool))) : Bool := (loop (m_rests_on_1 v_there) (fun y => y) (m_rests_on_2) v_rule.2.2.2 ())
abbrev s_rests_on : Stmt := top 2
theorem sc_rests_on : FnScope ["rule", "there", "premise"] ["rule", "there"] (defScope s_rests_on) := ⟨rfl, rfl, rfl, by decide +kernel, rfl, by decide +kernel, by decide +kernel⟩
def r_rests_on : List Dt → Sum Cell Xc → Prop := fun ds a => ∃ (v_rule : (Nat × Str × Str × (List Str))) (v_there : (List (Str × Bool))), ds = [(enc_Rule v_rule), (e13_dict v_there)] ∧ a = .inl (.fz (Dt.bl (m_rests_on v_rule v_there)))
section
variable {P : Program} {w : World} {K : PySem.W.Frag} {mg : Str → Option Value} {base : Heap}
theorem run_rests_on (T : Txt K mg)  {f : Addr} {cdv : Value} {A : Around} {outer : List PySem.Env} {s : Shared} {H : Hp} {E : XK} (hr : Room 0 (A.deeper (PyProof.Rows.envOfC "rests_on" (defScope s_rests_on) s.heap.objs.size f cdv))) (v_rule : (Nat × Str × Str × (List Str))) (v_there : (List (Str × Bool))) :
    Run (cxOf (L2.CX P w) P w K mg base ["rule", "there", "premise"] "rests_on" (defScope s_rests_on) f cdv A outer s H E) K (wE E) sv0 (defBody s_rests_on) (start0 ["rule", "there", "premise"] [(enc_Rule v_rule), (e13_dict v_there)]) (.rt (.fz (Dt.bl (m_rests_on v_rule v_there))) none) := by
  refine run_forQ (js := [2]) (P := (fun _ _ => True)) (Q := (fun _ => True)) (s0 := ()) Dt.str (fun v_st : (Unit) => [Zf (enc_Rule v_rule), Zf (e13_dict v_there), none]) (fun (v_st : (Unit)) (v_it : Str) => [Zf (enc_Rule v_rule), Zf (e13_dict v_there), Zf (Dt.str v_it)]) (fun x : Bool => .rt (.fz (Dt.bl x)) none) (m_rests_on_1 v_there) (fun y => y) (m_rests_on_2) (passes_of rfl) rfl (pg_name (i := 2) sc_rests_on.nd rfl (by first | exact Or.inl rfl | exact Or.inr rfl)) rfl (fun _ => trivial) (src_tup (fun _ => rfl) (ex_fld (fun _ => rfl) (T.cl_Rule _) (T.na_Rule_body _) (xv 0 rfl) (lk_Rule_body _))) (.keep (.keep (.keep .nil))) (fun _ _ => (bd_name (Nat.blt_eq.mp rfl))) (LoopAll.all (fun _ _ => trivial) (fun _ => trivial) _ _) (fun v_st v_it hm _ => ?_) (fun v_st _ => ?_)
  · refine run_gd (fun x : (Step (Unit) Bool) => x.out (fun v_st : (Unit) => [Zf (enc_Rule v_rule), Zf (e13_dict v_there), none]) (fun x : Bool => .rt (.fz (Dt.bl x)) none)) (.fin false) (.nx ()) (fun _ h => nomatch h) (xb_nid (g := Sum.inr) Dt.bl (fun _ _ h => Sum.inr.inj h) (keyS _) (fun _ => units_of hr) (xv 2 rfl) (EX.ed (xv 1 rfl))) (fun hb => ?_) (fun hb => ?_)
    · exact run_ret ex_bl
    · exact run_end (.keep (.keep (.drop .nil)))
  · exact run_ret ex_bl
theorem ok_rests_on (T : Txt K mg)  {f : Addr} {fd : FuncData} (F : FunD K "rests_on" "rests_on" (defArgs s_rests_on) (defBody s_rests_on) (defScope s_rests_on) [] [] f fd) : FnOk P w K mg base (L2.CX P w) 1 f fd ["rule", "there"] (spR K 2 r_rests_on) :=
  fnOk_mk F sc_rests_on (fun cdv A outer s H E ds a hr hR hn => by
    obtain ⟨v_rule, v_there, rfl, rfl⟩ := hR
    exact ⟨_, .rt _, run_rests_on T  hr v_rule v_there⟩)
theorem mk_rests_on (T : Txt K mg)  {f : Addr} {fd : FuncData} (F : FunD K "rests_on" "rests_on" (defArgs s_rests_on) (defBody s_rests_on) (defScope s_rests_on) [] [] f fd) {x : Str} (gf : mg x = some (.ref f)) : Callee P w K mg base x 1 2 r_rests_on :=
  ⟨f, fd, ["rule", "there"], ok_rests_on T  F, gf, F.kp, FunD.bindsN F fun _ _ _ _ _ _ us hl => match us, hl with | [_, _], _ => rfl⟩
end
/-! Ground_rules -/
def m_Ground_rules (v_self : (Nat × (List (Nat × Str × Str × (List Str))) × (List (Str × Str)) × (List ((Str × Str) × Bool)) × (List (Str × (List (Nat × Str × Str × (List Str))))))) : (List (Nat × Str × Str × (List Str))) := v_self.2.1
abbrev s_Ground_rules : Stmt := sub (top 14) 1
theorem sc_Ground_rules : FnScope ["self"] ["self"] (defScope s_Ground_rules) := ⟨rfl, rfl, rfl, by decide +kernel, rfl, by decide +kernel, by decide +kernel⟩
def r_Ground_rules : List Dt → Sum Cell Xc → Prop := fun ds a => ∃ (v_self : (Nat × (List (Nat × Str × Str × (List Str))) × (List (Str × Str)) × (List ((Str × Str) × Bool)) × (List (Str × (List (Nat × Str × Str × (List Str))))))), ds = [(enc_Ground v_self)] ∧ a = .inl (.ol (List.map enc_Rule (m_Ground_rules v_self)))
section
variable {P : Program} {w : World} {K : PySem.W.Frag} {mg : Str → Option Value} {base : Heap}
theorem run_Ground_rules (T : Txt K mg)  {f : Addr} {cdv : Value} {A : Around} {outer : List PySem.Env} {s : Shared} {H : Hp} {E : XK} (hr : Room 0 (A.deeper (PyProof.Rows.envOfC "Ground.rules" (defScope s_Ground_rules) s.heap.objs.size f cdv))) (v_self : (Nat × (List (Nat × Str × Str × (List Str))) × (List (Str × Str)) × (List ((Str × Str) × Bool)) × (List (Str × (List (Nat × Str × Str × (List Str))))))) :
    Run (cxOf (L2.CX P w) P w K mg base ["self"] "Ground.rules" (defScope s_Ground_rules) f cdv A outer s H E) K (wE E) sv0 (defBody s_Ground_rules) (start0 ["self"] [(enc_Ground v_self)]) (.rt (.ol (List.map enc_Rule (m_Ground_rules v_self))) none) := by
  exact run_retN (en_list (fun _ => rfl) (EX.esL (ex_fld (fun _ => rfl) (T.cl_Ground _) (T.na_Ground_every _) (xv 0 rfl) (lk_Ground_every _))) (fun _ => rfl) (fun _ => T.n_list))
theorem ok_Ground_rules (T : Txt K mg)  {f : Addr} {fd : FuncData} (F : FunD K "rules" "Ground.rules" (defArgs s_Ground_rules) (defBody s_Ground_rules) (defScope s_Ground_rules) [] [] f fd) : FnOk P w K mg base (L2.CX P w) 1 f fd ["self"] (spR K 1 r_Ground_rules) :=
  fnOk_mk F sc_Ground_rules (fun cdv A outer s H E ds a hr hR hn => by
    obtain ⟨v_self, rfl, rfl⟩ := hR
    exact ⟨_, .rt _, run_Ground_rules T  hr v_self⟩)
theorem mk_Ground_rules (T : Txt K mg)  {f : Addr} {fd : FuncData} (F : FunD K "rules" "Ground.rules" (defArgs s_Ground_rules) (defBody s_Ground_rules) (defScope s_Ground_rules) [] [] f fd) {C : Str} (M : Meth K (He.ga K C) "rules" f) : CalleeM P w K mg base C "rules" 1 1 r_Ground_rules :=
  ⟨f, fd, ["self"], ok_Ground_rules T  F, M, FunD.bindsN F fun _ _ _ _ _ _ us hl => match us, hl with | [_], _ => rfl⟩
end
/-! d_Ground_rules -/
def m_d_Ground_rules (z : (Nat × (List (Nat × Str × Str × (List Str))) × (List (Str × Str)) × (List ((Str × Str) × Bool)) × (List (Str × (List (Nat × Str × Str × (List Str))))))) : (List (Nat × Str × Str × (List Str))) := match z.1 with
  | _ => m_Ground_rules z
def rr_d_Ground_rules : Nat → List Dt → Sum Cell Xc → Prop := fun k => match k with
  | _ => r_Ground_rules
theorem dd_d_Ground_rules (z : (Nat × (List (Nat × Str × Str × (List Str))) × (List (Str × Str)) × (List ((Str × Str) × Bool)) × (List (Str × (List (Nat × Str × Str × (List Str))))))) : rr_d_Ground_rules z.1 [(enc_Ground z)] (.inl (.ol (List.map enc_Rule (m_d_Ground_rules z)))) := by
  obtain ⟨k, z⟩ := z
  rcases k with k
  · exact ⟨(k, z), rfl, rfl⟩
/-! fresh_heads -/
def m_fresh_heads_1  (v_st_1 : ((List (Str × Bool)))) : (Step ((List (Str × Bool))) (List Str)) := (.nx v_st_1)
def m_fresh_heads_2 (v_there : (List (Str × Bool))) (v_st : ((List (Str × Bool)))) (v_it : (Nat × Str × Str × (List Str))) : Step ((List (Str × Bool))) (List Str) := (m_fresh_heads_1 (cond ((m_d_Rule_is_sure v_it) && ((!hasK v_there v_it.2.2.1) && (m_rests_on v_it v_there))) (puts v_st v_it.2.2.1 true) v_st))
def k_fresh_heads_2 (v_there : (List (Str × Bool))) (v_st : ((List (Str × Bool)))) (v_it : (Nat × Str × Str × (List Str))) : Prop := (((m_d_Rule_is_sure v_it) && ((!hasK v_there v_it.2.2.1) && (m_rests_on v_it v_there))) = true → ((v_st).length + 1 ≤ big))
def m_fresh_heads_3  (v_st : ((List (Str × Bool)))) : (List Str) := (List.map Prod.fst v_st)
def m_fresh_heads_4 (v_rules : (List (Nat × Str × Str × (List Str)))) (v_there : (List (Str × Bool))) (v_found : (List (Str × Bool))) : (List Str) := (loop (m_fresh_heads_2 v_there) (fun y => y) (m_fresh_heads_3) v_rules v_found)
def k_fresh_heads_4 (v_rules : (List (Nat × Str × Str × (List Str)))) (v_there : (List (Str × Bool))) (v_found : (List (Str × Bool))) : Prop := (LoopAll (k_fresh_heads_2 v_there) (fun _ => True) (m_fresh_heads_2 v_there) v_rules v_found)
def m_fresh_heads (v_rules : (List (Nat × Str × Str × (List Str)))) (v_there : (List (Str × Bool))) : (List Str) := (m_fresh_heads_4 v_rules v_there [])
def k_fresh_heads (v_rules : (List (Nat × Str × Str × (List Str)))) (v_there : (List (Str × Bool))) : Prop := (k_fresh_heads_4 v_rules v_there [])
abbrev s_fresh_heads : Stmt := top 3
theorem sc_fresh_heads : FnScope ["rules", "there", "found", "rule"] ["rules", "there"] (defScope s_fresh_heads) := ⟨rfl, rfl, rfl, by decide +kernel, rfl, by decide +kernel, by decide +kernel⟩
def r_fresh_heads : List Dt → Sum Cell Xc → Prop := fun ds a => ∃ (v_rules : (List (Nat × Str × Str × (List Str)))) (v_there : (List (Str × Bool))), k_fresh_heads v_rules v_there ∧ ds = [(e7_list v_rules), (e13_dict v_there)] ∧ a = .inl (.ol (List.map Dt.str (m_fresh_heads v_rules v_there)))
section
variable {P : Program} {w : World} {K : PySem.W.Frag} {mg : Str → Option Value} {base : Heap}
theorem run_fresh_heads (T : Txt K mg) (c_d_Rule_is_sure : ∀ k, CalleeM P w K mg base (cn_Rule k) "is_sure" 1 1 (rr_d_Rule_is_sure k)) (c_rests_on : Callee P w K mg base "rests_on" 1 2 r_rests_on) {f : Addr} {cdv : Value} {A : Around} {outer : List PySem.Env} {s : Shared} {H : Hp} {E : XK} (hr : Room 1 (A.deeper (PyProof.Rows.envOfC "fresh_heads" (defScope s_fresh_heads) s.heap.objs.size f cdv))) (v_rules : (List (Nat × Str × Str × (List Str)))) (v_there : (List (Str × Bool))) (hk : k_fresh_heads v_rules v_there) :
    Run (cxOf (L2.CX P w) P w K mg base ["rules", "there", "found", "rule"] "fresh_heads" (defScope s_fresh_heads) f cdv A outer s H E) K (wE E) sv0 (defBody s_fresh_heads) (start0 ["rules", "there", "found", "rule"] [(e7_list v_rules), (e13_dict v_there)]) (.rt (.ol (List.map Dt.str (m_fresh_heads v_rules v_there))) none) := by
  have h7 := hk
  refine run_asgE (i := 2) [] (fun v_found => .od (encK Sum.inr Dt.bl v_found)) (fun _ => _) (fun v_found => [Zf (e7_list v_rules), Zf (e13_dict v_there), some (.od (encK Sum.inr Dt.bl v_found)), none]) (fun v_found => .rt (.ol (List.map Dt.str (m_fresh_heads_4 v_rules v_there v_found))) none) (k_fresh_heads_4 v_rules v_there) (EN.ev en_dic0) h7 sc_fresh_heads.nd (fun _ => rfl) (fun v_found hk => ?_)
  have h6 := hk
  refine run_forQ (js := [3]) (P := (k_fresh_heads_2 v_there)) (Q := (fun _ => True)) (s0 := v_found) enc_Rule (fun v_st : ((List (Str × Bool))) => [Zf (e7_list v_rules), Zf (e13_dict v_there), some (.od (encK Sum.inr Dt.bl v_st)), none]) (fun (v_st : ((List (Str × Bool)))) (v_it : (Nat × Str × Str × (List Str))) => [Zf (e7_list v_rules), Zf (e13_dict v_there), some (.od (encK Sum.inr Dt.bl v_st)), Zf (enc_Rule v_it)]) (fun x : (List Str) => .rt (.ol (List.map Dt.str x)) none) (m_fresh_heads_2 v_there) (fun y => y) (m_fresh_heads_3) (passes_of rfl) rfl (pg_name (i := 3) sc_fresh_heads.nd rfl (by first | exact Or.inl rfl | exact Or.inr rfl)) rfl (fun _ => trivial) (src_list (fun _ => rfl) (xv 0 rfl)) (.keep (.keep (.keep (.keep .nil)))) (fun _ _ => (bd_name (Nat.blt_eq.mp rfl))) h6 (fun v_st v_it hm hk => ?_) (fun v_st _ => ?_)
  · have h3 := hk
    refine run_ifP (s1 := (puts v_st v_it.2.2.1 true)) (s2 := v_st) (fun v_st_1 : ((List (Str × Bool))) => [Zf (e7_list v_rules), Zf (e13_dict v_there), some (.od (encK Sum.inr Dt.bl v_st_1)), Zf (enc_Rule v_it)]) (fun v_st_1 => (Step.out (fun v_st : ((List (Str × Bool))) => [Zf (e7_list v_rules), Zf (e13_dict v_there), some (.od (encK Sum.inr Dt.bl v_st)), none]) (fun x : (List Str) => .rt (.ol (List.map Dt.str x)) none) (m_fresh_heads_1 v_st_1))) (fun _ => True) (eb_w (ebw_and (eb_val (EN.fz0 (en_meth0 (c_d_Rule_is_sure _) (T.cl_Rule _) (fun _ => ⟨rfl, rfl, rfl, rfl, rfl⟩) (fun _ => hr.mono (by decide)) (xv 3 rfl) rfl (dd_d_Rule_is_sure v_it)))) (fun hb4 => (ebw_and (xb_nid (g := Sum.inr) Dt.bl (fun _ _ h => Sum.inr.inj h) (keyS _) (fun _ => units_of hr) (ex_fld (fun _ => rfl) (T.cl_Rule _) (T.na_Rule_head _) (xv 3 rfl) (lk_Rule_head _)) (EX.ed (xv 1 rfl))) (fun hb5 => (ebw_and1 (eb_val (ex_call c_rests_on (fun _ => ⟨rfl, rfl, rfl, rfl, rfl⟩) (fun _ => hr.mono (by decide)) (fun _ => rfl) (ea_cons (xv 3 rfl) (ea_cons (xv 1 rfl) ea_nil)) rfl ⟨v_it, v_there, rfl, rfl⟩)))))))) trivial (fun hb => ?_) (fun hb => ?_) (fun v_st_1 _ => ?_)
    · have hk := h3 hb
      have h2 := hk
      refine run_setD (g := Sum.inr) (i := 2) (π := []) (kvs := v_st) (k := v_it.2.2.1) (a := true) (G' := [Zf (e7_list v_rules), Zf (e13_dict v_there), some (.od (encK Sum.inr Dt.bl (puts v_st v_it.2.2.1 true))), Zf (enc_Rule v_it)]) Dt.bl (fun _ _ h => Sum.inr.inj h) (keyS _) (units_of hr) (pp 2 rfl) rfl ex_bl (ex_fld (fun _ => rfl) (T.cl_Rule _) (T.na_Rule_head _) (xv 3 rfl) (lk_Rule_head _)) h2 rfl ?_
      exact run_end (.keep (.keep (.keep (.keep .nil))))
    · exact run_end (.keep (.keep (.keep (.keep .nil))))
    · exact run_end (.keep (.keep (.keep (.drop .nil))))
  · exact run_retN (x_listD Dt.str (fun _ => rfl) (fun _ => rfl) (EP.ed (pp 2 rfl) rfl) (fun _ => rfl) (fun _ => T.n_list))
theorem ok_fresh_heads (T : Txt K mg) (c_d_Rule_is_sure : ∀ k, CalleeM P w K mg base (cn_Rule k) "is_sure" 1 1 (rr_d_Rule_is_sure k)) (c_rests_on : Callee P w K mg base "rests_on" 1 2 r_rests_on) {f : Addr} {fd : FuncData} (F : FunD K "fresh_heads" "fresh_heads" (defArgs s_fresh_heads) (defBody s_fresh_heads) (defScope s_fresh_heads) [] [] f fd) : FnOk P w K mg base (L2.CX P w) 2 f fd ["rules", "there"] (spR K 2 r_fresh_heads) :=
  fnOk_mk F sc_fresh_heads (fun cdv A outer s H E ds a hr hR hn => by
    obtain ⟨v_rules, v_there, hk, rfl, rfl⟩ := hR
    exact ⟨_, .rt _, run_fresh_heads T c_d_Rule_is_sure c_rests_on hr v_rules v_there hk⟩)
theorem mk_fresh_heads (T : Txt K mg) (c_d_Rule_is_sure : ∀ k, CalleeM P w K mg base (cn_Rule k) "is_sure" 1 1 (rr_d_Rule_is_sure k)) (c_rests_on : Callee P w K mg base "rests_on" 1 2 r_rests_on) {f : Addr} {fd : FuncData} (F : FunD K "fresh_heads" "fresh_heads" (defArgs s_fresh_heads) (defBody s_fresh_heads) (defScope s_fresh_heads) [] [] f fd) {x : Str} (gf : mg x = some (.ref f)) : Callee P w K mg base x 2 2 r_fresh_heads :=
  ⟨f, fd, ["rules", "there"], ok_fresh_heads T c_d_Rule_is_sure c_rests_on F, gf, F.kp, FunD.bindsN F fun _ _ _ _ _ _ us hl => match us, hl with | [_, _], _ => rfl⟩
end
/-! is_sure_set -/
def m_is_sure_set_1 (v_ground : (Nat × (List (Nat × Str × Str × (List Str))) × (List (Str × Str)) × (List ((Str × Str) × Bool)) × (List (Str × (List (Nat × Str × Str × (List Str))))))) (v_st : ((List (Str × Bool)))) (v_it : Str) : Step ((List (Str × Bool))) Bool := (cond (hasK v_st v_it) (.fin false) (cond (!(List.any (List.map (fun v_item : (Nat × Str × Str × (List Str)) => ((m_d_Rule_is_sure v_item) && (m_rests_on v_item v_st))) (m_d_Ground_ruling v_ground v_it)) id)) (.fin false) (.nx (puts v_st v_it true))))
def k_is_sure_set_1 (v_ground : (Nat × (List (Nat × Str × Str × (List Str))) × (List (Str × Str)) × (List ((Str × Str) × Bool)) × (List (Str × (List (Nat × Str × Str × (List Str))))))) (v_st : ((List (Str × Bool)))) (v_it : Str) : Prop := ((hasK v_st v_it) = false → ((((m_d_Ground_ruling v_ground v_it)).length ≤ big) ∧ ((!(List.any (List.map (fun v_item : (Nat × Str × Str × (List Str)) => ((m_d_Rule_is_sure v_item) && (m_rests_on v_item v_st))) (m_d_Ground_ruling v_ground v_it)) id)) = false → ((v_st).length + 1 ≤ big))))
def m_is_sure_set_2 (v_ground : (Nat × (List (Nat × Str × Str × (List Str))) × (List (Str × Str)) × (List ((Str × Str) × Bool)) × (List (Str × (List (Nat × Str × Str × (List Str))))))) (v_st : ((List (Str × Bool)))) : Bool := ((m_fresh_heads ((m_d_Ground_rules v_ground)) v_st) == [])
def k_is_sure_set_2 (v_ground : (Nat × (List (Nat × Str × Str × (List Str))) × (List (Str × Str)) × (List ((Str × Str) × Bool)) × (List (Str × (List (Nat × Str × Str × (List Str))))))) (v_st : ((List (Str × Bool)))) : Prop := (k_fresh_heads ((m_d_Ground_rules v_ground)) v_st)
def m_is_sure_set_3 (v_ground : (Nat × (List (Nat × Str × Str × (List Str))) × (List (Str × Str)) × (List ((Str × Str) × Bool)) × (List (Str × (List (Nat × Str × Str × (List Str))))))) (v_some : (List Str)) (v_there : (List (Str × Bool))) : Bool := (loop (m_is_sure_set_1 v_ground) (fun y => y) (m_is_sure_set_2 v_ground) v_some v_there)
def k_is_sure_set_3 (v_ground : (Nat × (List (Nat × Str × Str × (List Str))) × (List (Str × Str)) × (List ((Str × Str) × Bool)) × (List (Str × (List (Nat × Str × Str × (List Str))))))) (v_some : (List Str)) (v_there : (List (Str × Bool))) : Prop := (LoopAll (k_is_sure_set_1 v_ground) (k_is_sure_set_2 v_ground) (m_is_sure_set_1 v_ground) v_some v_there)
def m_is_sure_set (v_ground : (Nat × (List (Nat × Str × Str × (List Str))) × (List (Str × Str)) × (List ((Str × Str) × Bool)) × (List (Str × (List (Nat × Str × Str × (List Str))))))) (v_some : (List Str)) : Bool := (m_is_sure_set_3 v_ground v_some [])
def k_is_sure_set (v_ground : (Nat × (List (Nat × Str × Str × (List Str))) × (List (Str × Str)) × (List ((Str × Str) × Bool)) × (List (Str × (List (Nat × Str × Str × (List Str))))))) (v_some : (List Str)) : Prop := (k_is_sure_set_3 v_ground v_some [])
abbrev s_is_sure_set : Stmt := top 4
theorem sc_is_sure_set : FnScope ["ground", "some", "there", "statement", "rule"] ["ground", "some"] (defScope s_is_sure_set) := ⟨rfl, rfl, rfl, by decide +kernel, rfl, by decide +kernel, by decide +kernel⟩
def r_is_sure_set : List Dt → Sum Cell Xc → Prop := fun ds a => ∃ (v_ground : (Nat × (List (Nat × Str × Str × (List Str))) × (List (Str × Str)) × (List ((Str × Str) × Bool)) × (List (Str × (List (Nat × Str × Str × (List Str))))))) (v_some : (List Str)), k_is_sure_set v_ground v_some ∧ ds = [(enc_Ground v_ground), (e2_list v_some)] ∧ a = .inl (.fz (Dt.bl (m_is_sure_set v_ground v_some)))
section
variable {P : Program} {w : World} {K : PySem.W.Frag} {mg : Str → Option Value} {base : Heap}
theorem run_is_sure_set (T : Txt K mg) (c_d_Ground_rules : ∀ k, CalleeM P w K mg base (cn_Ground k) "rules" 1 1 (rr_d_Ground_rules k)) (c_d_Ground_ruling : ∀ k, CalleeM P w K mg base (cn_Ground k) "ruling" 1 2 (rr_d_Ground_ruling k)) (c_d_Rule_is_sure : ∀ k, CalleeM P w K mg base (cn_Rule k) "is_sure" 1 1 (rr_d_Rule_is_sure k)) (c_fresh_heads : Callee P w K mg base "fresh_heads" 2 2 r_fresh_heads) (c_rests_on : Callee P w K mg base "rests_on" 1 2 r_rests_on) {f : Addr} {cdv : Value} {A : Around} {outer : List PySem.Env} {s : Shared} {H : Hp} {E : XK} (hr : Room 2 (A.deeper (PyProof.Rows.envOfC "is_sure_set" (defScope s_is_sure_set) s.heap.objs.size f cdv))) (v_ground : (Nat × (List (Nat × Str × Str × (List Str))) × (List (Str × Str)) × (List ((Str × Str) × Bool)) × (List (Str × (List (Nat × Str × Str × (List Str))))))) (v_some : (List Str)) (hk : k_is_sure_set v_ground v_some) :
    Run (cxOf (L2.CX P w) P w K mg base ["ground", "some", "there", "statement", "rule"] "is_sure_set" (defScope s_is_sure_set) f cdv A outer s H E) K (wE E) sv0 (defBody s_is_sure_set) (start0 ["ground", "some", "there", "statement", "rule"] [(enc_Ground v_ground), (e2_list v_some)]) (.rt (.fz (Dt.bl (m_is_sure_set v_ground v_some))) none) := by
  have h8 := hk
  refine run_asgE (i := 2) [] (fun v_there => .od (encK Sum.inr Dt.bl v_there)) (fun _ => _) (fun v_there => [Zf (enc_Ground v_ground), Zf (e2_list v_some), some (.od (encK Sum.inr Dt.bl v_there)), none, none]) (fun v_there => .rt (.fz (Dt.bl (m_is_sure_set_3 v_ground v_some v_there))) none) (k_is_sure_set_3 v_ground v_some) (EN.ev en_dic0) h8 sc_is_sure_set.nd (fun _ => rfl) (fun v_there hk => ?_)
  have h7 := hk
  refine run_forQ (js := [3]) (P := (k_is_sure_set_1 v_ground)) (Q := (k_is_sure_set_2 v_ground)) (s0 := v_there) Dt.str (fun v_st : ((List (Str × Bool))) => [Zf (enc_Ground v_ground), Zf (e2_list v_some), some (.od (encK Sum.inr Dt.bl v_st)), none, none]) (fun (v_st : ((List (Str × Bool)))) (v_it : Str) => [Zf (enc_Ground v_ground), Zf (e2_list v_some), some (.od (encK Sum.inr Dt.bl v_st)), Zf (Dt.str v_it), none]) (fun x : Bool => .rt (.fz (Dt.bl x)) none) (m_is_sure_set_1 v_ground) (fun y => y) (m_is_sure_set_2 v_ground) (passes_of rfl) rfl (pg_name (i := 3) sc_is_sure_set.nd rfl (by first | exact Or.inl rfl | exact Or.inr rfl)) rfl (fun _ => trivial) (src_list (fun _ => rfl) (xv 1 rfl)) (.keep (.keep (.keep (.keep (.keep .nil))))) (fun _ _ => (bd_name (Nat.blt_eq.mp rfl))) h7 (fun v_st v_it hm hk => ?_) (fun v_st hk => ?_)
  · have h5 := hk
    refine run_gd (fun x : (Step ((List (Str × Bool))) Bool) => x.out (fun v_st : ((List (Str × Bool))) => [Zf (enc_Ground v_ground), Zf (e2_list v_some), some (.od (encK Sum.inr Dt.bl v_st)), none, none]) (fun x : Bool => .rt (.fz (Dt.bl x)) none)) (.fin false) (cond (!(List.any (List.map (fun v_item : (Nat × Str × Str × (List Str)) => ((m_d_Rule_is_sure v_item) && (m_rests_on v_item v_st))) (m_d_Ground_ruling v_ground v_it)) id)) (.fin false) (.nx (puts v_st v_it true))) (fun _ h => nomatch h) (xb_ind (g := Sum.inr) Dt.bl (fun _ _ h => Sum.inr.inj h) (keyS _) (fun _ => units_of hr) (xv 3 rfl) (EP.ed (pp 2 rfl) rfl)) (fun hb => ?_) (fun hb => ?_)
    · exact run_ret ex_bl
    · have hk := h5 hb
      obtain ⟨h2, h3⟩ := hk
      refine run_gd (fun x : (Step ((List (Str × Bool))) Bool) => x.out (fun v_st : ((List (Str × Bool))) => [Zf (enc_Ground v_ground), Zf (e2_list v_some), some (.od (encK Sum.inr Dt.bl v_st)), none, none]) (fun x : Bool => .rt (.fz (Dt.bl x)) none)) (.fin false) (.nx (puts v_st v_it true)) (fun _ h => nomatch h) (eb_not (eb_val (ex_any (fun _ => rfl) (fun _ => rfl) (EN.es (EN.isL (x_lc (own := [("rule", 4)]) enc_Rule (fun v_item : (Nat × Str × Str × (List Str)) => [Zf (enc_Ground v_ground), Zf (e2_list v_some), some (.od (encK Sum.inr Dt.bl v_st)), Zf (Dt.str v_it), Zf (enc_Rule v_item)]) (fun v_item : (Nat × Str × Str × (List Str)) => true) (fun v_item : (Nat × Str × Str × (List Str)) => (Dt.bl ((m_d_Rule_is_sure v_item) && (m_rests_on v_item v_st)))) (fun _ => rfl) (fun _ => sc_is_sure_set.nd) (src_list (fun _ => rfl) (EN.frz (en_meth (c_d_Ground_ruling _) (T.cl_Ground _) (fun _ => ⟨rfl, rfl, rfl, rfl, rfl⟩) (fun _ => hr.mono (by decide)) (xv 0 rfl) (ea_cons (xv 3 rfl) ea_nil) rfl (dd_d_Ground_ruling v_ground v_it)) rfl)) h2 (fun _ => blkOk_by (by decide +kernel : blkC ["ground", "some", "there", "statement", "rule"] (defScope s_is_sure_set) _ [("rule", 4)] = true)) (by decide) (fun _ => (pg_name (i := 4) sc_is_sure_set.nd rfl (by first | exact Or.inl rfl | exact Or.inr rfl))) (fun _ => (bd_name (Nat.blt_eq.mp rfl))) ⟨tYes, fun _ => pts_nil, fun _ _ F H σ fps Q E q => q F H (Up.refl E.sub)⟩ (fun v_item hm hp => (ex_and (EN.fz0 (en_meth0 (c_d_Rule_is_sure _) (T.cl_Rule _) (fun _ => ⟨rfl, rfl, rfl, rfl, rfl⟩) (fun _ => hr.mono (by decide)) (xv 4 rfl) rfl (dd_d_Rule_is_sure v_item))) (fun hb4 => (ex_one (thaw 2 [] rfl rfl rfl rfl (ex_call c_rests_on (fun _ => ⟨rfl, rfl, rfl, rfl, rfl⟩) (fun _ => hr.mono (by decide)) (fun _ => rfl) (ea_cons (xv 4 rfl) (ea_cons (xv 2 rfl) ea_nil)) rfl ⟨v_item, v_st, rfl, rfl⟩) (nol_bl _))))))) (lcM_enc Dt.bl (fun v_item : (Nat × Str × Str × (List Str)) => ((m_d_Rule_is_sure v_item) && (m_rests_on v_item v_st))) (m_d_Ground_ruling v_ground v_it)))) (fun _ => rfl) (fun _ => T.n_any)))) (fun hb => ?_) (fun hb => ?_)
      · exact run_ret ex_bl
      · have hk := h3 hb
        have h1 := hk
        refine run_setD (g := Sum.inr) (i := 2) (π := []) (kvs := v_st) (k := v_it) (a := true) (G' := [Zf (enc_Ground v_ground), Zf (e2_list v_some), some (.od (encK Sum.inr Dt.bl (puts v_st v_it true))), Zf (Dt.str v_it), none]) Dt.bl (fun _ _ h => Sum.inr.inj h) (keyS _) (units_of hr) (pp 2 rfl) rfl ex_bl (xv 3 rfl) h1 rfl ?_
        exact run_end (.keep (.keep (.keep (.drop (.keep .nil)))))
  · have h6 := hk
    exact run_ret (ex_cmp (says_eqD (fun _ => units_of hr) (fun _ => rfl) (EqT.d (f := e2_list) (eqt_lst eqt_str) (by decide) (m_fresh_heads ((m_d_Ground_rules v_ground)) v_st) [])) (EN.frz (thawL 2 [] rfl rfl rfl rfl (en_call c_fresh_heads (fun _ => ⟨rfl, rfl, rfl, rfl, rfl⟩) (fun _ => hr.mono (by decide)) (fun _ => rfl) (ea_cons (EN.frz (en_meth0 (c_d_Ground_rules _) (T.cl_Ground _) (fun _ => ⟨rfl, rfl, rfl, rfl, rfl⟩) (fun _ => hr.mono (by decide)) (xv 0 rfl) rfl (dd_d_Ground_rules v_ground)) rfl) (ea_cons (xv 2 rfl) ea_nil)) rfl ⟨(m_d_Ground_rules v_ground), v_st, h6, rfl, rfl⟩) (noLs_map (fun _ => nol_str _) _)) rfl) (EN.frz (en_lst ea_nil (Nat.le_of_ble_eq_true rfl)) rfl))
theorem ok_is_sure_set (T : Txt K mg) (c_d_Ground_rules : ∀ k, CalleeM P w K mg base (cn_Ground k) "rules" 1 1 (rr_d_Ground_rules k)) (c_d_Ground_ruling : ∀ k, CalleeM P w K mg base (cn_Ground k) "ruling" 1 2 (rr_d_Ground_ruling k)) (c_d_Rule_is_sure : ∀ k, CalleeM P w K mg base (cn_Rule k) "is_sure" 1 1 (rr_d_Rule_is_sure k)) (c_fresh_heads : Callee P w K mg base "fresh_heads" 2 2 r_fresh_heads) (c_rests_on : Callee P w K mg base "rests_on" 1 2 r_rests_on) {f : Addr} {fd : FuncData} (F : FunD K "is_sure_set" "is_sure_set" (defArgs s_is_sure_set) (defBody s_is_sure_set) (defScope s_is_sure_set) [] [] f fd) : FnOk P w K mg base (L2.CX P w) 3 f fd ["ground", "some"] (spR K 2 r_is_sure_set) :=
  fnOk_mk F sc_is_sure_set (fun cdv A outer s H E ds a hr hR hn => by
    obtain ⟨v_ground, v_some, hk, rfl, rfl⟩ := hR
    exact ⟨_, .rt _, run_is_sure_set T c_d_Ground_rules c_d_Ground_ruling c_d_Rule_is_sure c_fresh_heads c_rests_on hr v_ground v_some hk⟩)
theorem mk_is_sure_set (T : Txt K mg) (c_d_Ground_rules : ∀ k, CalleeM P w K mg base (cn_Ground k) "rules" 1 1 (rr_d_Ground_rules k)) (c_d_Ground_ruling : ∀ k, CalleeM P w K mg base (cn_Ground k) "ruling" 1 2 (rr_d_Ground_ruling k)) (c_d_Rule_is_sure : ∀ k, CalleeM P w K mg base (cn_Rule k) "is_sure" 1 1 (rr_d_Rule_is_sure k)) (c_fresh_heads : Callee P w K mg base "fresh_heads" 2 2 r_fresh_heads) (c_rests_on : Callee P w K mg base "rests_on" 1 2 r_rests_on) {f : Addr} {fd : FuncData} (F : FunD K "is_sure_set" "is_sure_set" (defArgs s_is_sure_set) (defBody s_is_sure_set) (defScope s_is_sure_set) [] [] f fd) {x : Str} (gf : mg x = some (.ref f)) : Callee P w K mg base x 3 2 r_is_sure_set :=
  ⟨f, fd, ["ground", "some"], ok_is_sure_set T c_d_Ground_rules c_d_Ground_ruling c_d_Rule_is_sure c_fresh_heads c_rests_on F, gf, F.kp, FunD.bindsN F fun _ _ _ _ _ _ us hl => match us, hl with | [_, _], _ => rfl⟩
end
/-! law_good -/
def m_law_good_1 (v_st : ((List (Str × Bool)))) (v_it : Str) (v_ways : (List (Str × Str × Str × (List Str)))) : (Step ((List (Str × Bool))) Bool) := (cond ((lcF (fun v_item_4 : (Str × Str × Str × (List Str)) => ((lcF (fun v_item_6 : Str => (!hasK v_st v_item_6)) (fun v_item_6 : Str => v_item_6) v_item_4.2.2.2) == [])) (fun v_item_4 : (Str × Str × Str × (List Str)) => v_item_4) v_ways) == []) (.fin false) (.nx (puts v_st v_it true)))
def k_law_good_1 (v_st : ((List (Str × Bool)))) (v_it : Str) (v_ways : (List (Str × Str × Str × (List Str)))) : Prop := (((v_ways).length ≤ big) ∧ (∀ v_item_4 ∈ v_ways, ((v_item_4.2.2.2).length ≤ big)) ∧ (((lcF (fun v_item_4 : (Str × Str × Str × (List Str)) => ((lcF (fun v_item_6 : Str => (!hasK v_st v_item_6)) (fun v_item_6 : Str => v_item_6) v_item_4.2.2.2) == [])) (fun v_item_4 : (Str × Str × Str × (List Str)) => v_item_4) v_ways) == []) = false → ((v_st).length + 1 ≤ big)))
def m_law_good_2 (v_rows_here : (List (Str × Str × Str × (List Str)))) (v_st : ((List (Str × Bool)))) (v_it : Str) : Step ((List (Str × Bool))) Bool := (m_law_good_1 v_st v_it (lcF (fun v_item : (Str × Str × Str × (List Str)) => ((v_item.2.2.1 == v_it) && (List.elem v_item.1 [(Str.ofString "fact"), (Str.ofString "sure")]))) (fun v_item : (Str × Str × Str × (List Str)) => v_item) v_rows_here))
def k_law_good_2 (v_rows_here : (List (Str × Str × Str × (List Str)))) (v_st : ((List (Str × Bool)))) (v_it : Str) : Prop := (((v_rows_here).length ≤ big) ∧ (k_law_good_1 v_st v_it (lcF (fun v_item : (Str × Str × Str × (List Str)) => ((v_item.2.2.1 == v_it) && (List.elem v_item.1 [(Str.ofString "fact"), (Str.ofString "sure")]))) (fun v_item : (Str × Str × Str × (List Str)) => v_item) v_rows_here)))
def m_law_good_3  (v_st : ((List (Str × Bool)))) : Bool := true
def m_law_good_4 (v_rows_here : (List (Str × Str × Str × (List Str)))) (v_some : (List Str)) (v_ahead : (List (Str × Bool))) : Bool := (loop (m_law_good_2 v_rows_here) (fun y => y) (m_law_good_3) v_some v_ahead)
def k_law_good_4 (v_rows_here : (List (Str × Str × Str × (List Str)))) (v_some : (List Str)) (v_ahead : (List (Str × Bool))) : Prop := (LoopAll (k_law_good_2 v_rows_here) (fun _ => True) (m_law_good_2 v_rows_here) v_some v_ahead)
def m_law_good (v_rows_here : (List (Str × Str × Str × (List Str)))) (v_ranks : (List (Str × Int))) (v_some : (List Str)) : Bool := (cond (!((sortT v_some) == (sortT (List.map Prod.fst v_ranks)))) false (m_law_good_4 v_rows_here v_some []))
def k_law_good (v_rows_here : (List (Str × Str × Str × (List Str)))) (v_ranks : (List (Str × Int))) (v_some : (List Str)) : Prop := (((v_some).length ≤ big) ∧ ((!((sortT v_some) == (sortT (List.map Prod.fst v_ranks)))) = false → (k_law_good_4 v_rows_here v_some [])))
abbrev s_law_good : Stmt := top 28
theorem sc_law_good : FnScope ["_law_rows_here", "_law_ranks", "_law_some", "_law_ahead", "_law_q", "_law_ways", "_law_row_here", "_law_p"] ["_law_rows_here", "_law_ranks", "_law_some"] (defScope s_law_good) := ⟨rfl, rfl, rfl, by decide +kernel, rfl, by decide +kernel, by decide +kernel⟩
def r_law_good : List Dt → Sum Cell Xc → Prop := fun ds a => ∃ (v_rows_here : (List (Str × Str × Str × (List Str)))) (v_ranks : (List (Str × Int))) (v_some : (List Str)), k_law_good v_rows_here v_ranks v_some ∧ ds = [(e5_list v_rows_here), (e6_dict v_ranks), (e2_list v_some)] ∧ a = .inl (.fz (Dt.bl (m_law_good v_rows_here v_ranks v_some)))
section
variable {P : Program} {w : World} {K : PySem.W.Frag} {mg : Str → Option Value} {base : Heap}
theorem run_law_good (T : Txt K mg)  {f : Addr} {cdv : Value} {A : Around} {outer : List PySem.Env} {s : Shared} {H : Hp} {E : XK} (hr : Room 0 (A.deeper (PyProof.Rows.envOfC "_law_good" (defScope s_law_good) s.heap.objs.size f cdv))) (v_rows_here : (List (Str × Str × Str × (List Str)))) (v_ranks : (List (Str × Int))) (v_some : (List Str)) (hk : k_law_good v_rows_here v_ranks v_some) :
    Run (cxOf (L2.CX P w) P w K mg base ["_law_rows_here", "_law_ranks", "_law_some", "_law_ahead", "_law_q", "_law_ways", "_law_row_here", "_law_p"] "_law_good" (defScope s_law_good) f cdv A outer s H E) K (wE E) sv0 (defBody s_law_good) (start0 ["_law_rows_here", "_law_ranks", "_law_some", "_law_ahead", "_law_q", "_law_ways", "_law_row_here", "_law_p"] [(e5_list v_rows_here), (e6_dict v_ranks), (e2_list v_some)]) (.rt (.fz (Dt.bl (m_law_good v_rows_here v_ranks v_some))) none) := by
  obtain ⟨h10, h11⟩ := hk
  refine run_gd (fun x : Bool => .rt (.fz (Dt.bl x)) none) false (m_law_good_4 v_rows_here v_some []) (fun _ h => nomatch h) (eb_cmp (says_neD (fun _ => units_of hr) (fun _ => rfl) (EqT.d (f := e2_list) (eqt_lst eqt_str) (by decide) (sortT v_some) (sortT (List.map Prod.fst v_ranks)))) (EN.frz (x_sortG (f := Dt.str) sot_str (fun _ => units_of hr) (fun _ => rfl) (EX.esL (xv 2 rfl)) h10 (fun _ => rfl) (fun _ => T.n_sorted)) rfl) (EN.frz (x_sortKS (b := Dt.int) (fun _ => rfl) (fun _ => units_of hr) (fun _ => rfl) (EX.ed (xv 1 rfl)) (fun _ => rfl) (fun _ => T.n_sorted)) rfl)) (fun hb => ?_) (fun hb => ?_)
  · exact run_ret ex_bl
  · have hk := h11 hb
    have h9 := hk
    refine run_asgE (i := 3) [] (fun v_ahead => .od (encK Sum.inr Dt.bl v_ahead)) (fun _ => _) (fun v_ahead => [Zf (e5_list v_rows_here), Zf (e6_dict v_ranks), Zf (e2_list v_some), some (.od (encK Sum.inr Dt.bl v_ahead)), none, none, none, none]) (fun v_ahead => .rt (.fz (Dt.bl (m_law_good_4 v_rows_here v_some v_ahead))) none) (k_law_good_4 v_rows_here v_some) (EN.ev en_dic0) h9 sc_law_good.nd (fun _ => rfl) (fun v_ahead hk => ?_)
    have h8 := hk
    refine run_forQ (js := [4]) (P := (k_law_good_2 v_rows_here)) (Q := (fun _ => True)) (s0 := v_ahead) Dt.str (fun v_st : ((List (Str × Bool))) => [Zf (e5_list v_rows_here), Zf (e6_dict v_ranks), Zf (e2_list v_some), some (.od (encK Sum.inr Dt.bl v_st)), none, none, none, none]) (fun (v_st : ((List (Str × Bool)))) (v_it : Str) => [Zf (e5_list v_rows_here), Zf (e6_dict v_ranks), Zf (e2_list v_some), some (.od (encK Sum.inr Dt.bl v_st)), Zf (Dt.str v_it), none, none, none]) (fun x : Bool => .rt (.fz (Dt.bl x)) none) (m_law_good_2 v_rows_here) (fun y => y) (m_law_good_3) (passes_of rfl) rfl (pg_name (i := 4) sc_law_good.nd rfl (by first | exact Or.inl rfl | exact Or.inr rfl)) rfl (fun _ => trivial) (src_list (fun _ => rfl) (xv 2 rfl)) (.keep (.keep (.keep (.keep (.keep (.keep (.keep (.keep .nil)))))))) (fun _ _ => (bd_name (Nat.blt_eq.mp rfl))) h8 (fun v_st v_it hm hk => ?_) (fun v_st _ => ?_)
    · obtain ⟨h5, h6⟩ := hk
      refine run_asgLc (i := 5) (v := (lcF (fun v_item : (Str × Str × Str × (List Str)) => ((v_item.2.2.1 == v_it) && (List.elem v_item.1 [(Str.ofString "fact"), (Str.ofString "sure")]))) (fun v_item : (Str × Str × Str × (List Str)) => v_item) v_rows_here)) (fun z : (List (Str × Str × Str × (List Str))) => List.map e1_tup z) (fun v_ways => [Zf (e5_list v_rows_here), Zf (e6_dict v_ranks), Zf (e2_list v_some), some (.od (encK Sum.inr Dt.bl v_st)), Zf (Dt.str v_it), some (.ol (List.map e1_tup v_ways)), none, none]) (fun v_ways => (Step.out (fun v_st : ((List (Str × Bool))) => [Zf (e5_list v_rows_here), Zf (e6_dict v_ranks), Zf (e2_list v_some), some (.od (encK Sum.inr Dt.bl v_st)), none, none, none, none]) (fun x : Bool => .rt (.fz (Dt.bl x)) none) (m_law_good_1 v_st v_it v_ways))) (k_law_good_1 v_st v_it) (own := [("_law_row_here", 6)]) e1_tup (fun v_item : (Str × Str × Str × (List Str)) => [Zf (e5_list v_rows_here), Zf (e6_dict v_ranks), Zf (e2_list v_some), some (.od (encK Sum.inr Dt.bl v_st)), Zf (Dt.str v_it), none, Zf (e1_tup v_item), none]) (fun v_item : (Str × Str × Str × (List Str)) => ((v_item.2.2.1 == v_it) && (List.elem v_item.1 [(Str.ofString "fact"), (Str.ofString "sure")]))) (fun v_item : (Str × Str × Str × (List Str)) => (e1_tup v_item)) (fun _ => rfl) (fun _ => sc_law_good.nd) (src_list (fun _ => rfl) (xv 0 rfl)) h5 (fun _ => blkOk_by (by decide +kernel : blkC ["_law_rows_here", "_law_ranks", "_law_some", "_law_ahead", "_law_q", "_law_ways", "_law_row_here", "_law_p"] (defScope s_law_good) _ [("_law_row_here", 6)] = true)) (by decide) (fun _ => (pg_name (i := 6) sc_law_good.nd rfl (by first | exact Or.inl rfl | exact Or.inr rfl))) (fun _ => (bd_name (Nat.blt_eq.mp rfl))) (tt_of fun v_item hm => (eb_w (ebw_and (eb_cmp says_eqS (x_ixT (d := (Dt.str v_item.2.2.1)) (fun _ => rfl) (EX.esT (xv 6 rfl)) ex_int) (xv 4 rfl)) (fun hb7 => (ebw_and1 (xb_inS (fun _ => rfl) (x_ixT (d := (Dt.str v_item.1)) (fun _ => rfl) (EX.esT (xv 6 rfl)) ex_int) (EX.esT (ex_tup (ea_cons (ex_str (h := by decide +kernel)) (ea_cons (ex_str (h := by decide +kernel)) ea_nil)) (Nat.le_of_ble_eq_true rfl))))))))) (fun v_item hm hp => (xv 6 rfl)) (lcF_enc e1_tup (fun v_item : (Str × Str × Str × (List Str)) => ((v_item.2.2.1 == v_it) && (List.elem v_item.1 [(Str.ofString "fact"), (Str.ofString "sure")]))) (fun v_item : (Str × Str × Str × (List Str)) => v_item) v_rows_here).symm h6 (fun v_ways hk => ?_) rfl rfl (Nat.blt_eq.mp rfl) rfl (sw_true rfl rfl rfl (by decide +kernel)) (fun _ => rfl)
      obtain ⟨h2, h3, h4⟩ := hk
      refine run_gd (fun x : (Step ((List (Str × Bool))) Bool) => x.out (fun v_st : ((List (Str × Bool))) => [Zf (e5_list v_rows_here), Zf (e6_dict v_ranks), Zf (e2_list v_some), some (.od (encK Sum.inr Dt.bl v_st)), none, none, none, none]) (fun x : Bool => .rt (.fz (Dt.bl x)) none)) (.fin false) (.nx (puts v_st v_it true)) (fun _ h => nomatch h) (eb_cmp (says_eqD (fun _ => units_of hr) (fun _ => rfl) (EqT.d (f := e5_list) (eqt_lst (eqt_tup4 eqt_str eqt_str eqt_str (eqt_vtup eqt_str))) (by decide) (lcF (fun v_item_4 : (Str × Str × Str × (List Str)) => ((lcF (fun v_item_6 : Str => (!hasK v_st v_item_6)) (fun v_item_6 : Str => v_item_6) v_item_4.2.2.2) == [])) (fun v_item_4 : (Str × Str × Str × (List Str)) => v_item_4) v_ways) [])) (EN.frz (thawL 5 [] rfl rfl rfl rfl (EN.isL (x_lc (own := [("_law_row_here", 6)]) e1_tup (fun v_item_4 : (Str × Str × Str × (List Str)) => [Zf (e5_list v_rows_here), Zf (e6_dict v_ranks), Zf (e2_list v_some), some (.od (encK Sum.inr Dt.bl v_st)), Zf (Dt.str v_it), Zf (e5_list v_ways), Zf (e1_tup v_item_4), none]) (fun v_item_4 : (Str × Str × Str × (List Str)) => ((lcF (fun v_item_6 : Str => (!hasK v_st v_item_6)) (fun v_item_6 : Str => v_item_6) v_item_4.2.2.2) == [])) (fun v_item_4 : (Str × Str × Str × (List Str)) => (e1_tup v_item_4)) (fun _ => rfl) (fun _ => sc_law_good.nd) (src_list (fun _ => rfl) (xv 5 rfl)) h2 (fun _ => blkOk_by (by decide +kernel : blkC ["_law_rows_here", "_law_ranks", "_law_some", "_law_ahead", "_law_q", "_law_ways", "_law_row_here", "_law_p"] (defScope s_law_good) _ [("_law_row_here", 6)] = true)) (by decide) (fun _ => (pg_name (i := 6) sc_law_good.nd rfl (by first | exact Or.inl rfl | exact Or.inr rfl))) (fun _ => (bd_name (Nat.blt_eq.mp rfl))) (tt_of fun v_item_4 hm => (eb_cmp (says_eqD (fun _ => units_of hr) (fun _ => rfl) (EqT.d (f := e2_list) (eqt_lst eqt_str) (by decide) (lcF (fun v_item_6 : Str => (!hasK v_st v_item_6)) (fun v_item_6 : Str => v_item_6) v_item_4.2.2.2) [])) (EN.frz (EN.isL (x_lc (own := [("_law_p", 7)]) Dt.str (fun v_item_6 : Str => [Zf (e5_list v_rows_here), Zf (e6_dict v_ranks), Zf (e2_list v_some), some (.od (encK Sum.inr Dt.bl v_st)), Zf (Dt.str v_it), Zf (e5_list v_ways), Zf (e1_tup v_item_4), Zf (Dt.str v_item_6)]) (fun v_item_6 : Str => (!hasK v_st v_item_6)) (fun v_item_6 : Str => (Dt.str v_item_6)) (fun _ => rfl) (fun _ => sc_law_good.nd) (src_tup (fun _ => rfl) (x_ixT (d := (e0_vtup v_item_4.2.2.2)) (fun _ => rfl) (EX.esT (xv 6 rfl)) ex_int)) (h3 v_item_4 hm) (fun _ => blkOk_nest (N := ["_law_rows_here", "_law_ranks", "_law_some", "_law_ahead", "_law_q", "_law_ways", "_law_row_here", "_law_p"]) (by decide +kernel)) (by decide) (fun _ => (pg_name (i := 7) sc_law_good.nd rfl (by first | exact Or.inl rfl | exact Or.inr rfl))) (fun _ => (bd_name (Nat.blt_eq.mp rfl))) (tt_of fun v_item_6 hm => (xb_nid (g := Sum.inr) Dt.bl (fun _ _ h => Sum.inr.inj h) (keyS _) (fun _ => units_of hr) (xv 7 rfl) (EP.ed (pp 3 rfl) rfl))) (fun v_item_6 hm hp => (xv 7 rfl))) (lcF_enc Dt.str (fun v_item_6 : Str => (!hasK v_st v_item_6)) (fun v_item_6 : Str => v_item_6) v_item_4.2.2.2)) rfl) (EN.frz (en_lst ea_nil (Nat.le_of_ble_eq_true rfl)) rfl))) (fun v_item_4 hm hp => (xv 6 rfl))) (lcF_enc e1_tup (fun v_item_4 : (Str × Str × Str × (List Str)) => ((lcF (fun v_item_6 : Str => (!hasK v_st v_item_6)) (fun v_item_6 : Str => v_item_6) v_item_4.2.2.2) == [])) (fun v_item_4 : (Str × Str × Str × (List Str)) => v_item_4) v_ways)) (noLs_map (fun _ => (fun z : (Str × Str × Str × (List Str)) => nol_tup4 (nol_str z.1) (nol_str z.2.1) (nol_str z.2.2.1) ((nol_vtup nol_str) z.2.2.2)) _) _)) rfl) (EN.frz (en_lst ea_nil (Nat.le_of_ble_eq_true rfl)) rfl)) (fun hb => ?_) (fun hb => ?_)
      · exact run_ret ex_bl
      · have hk := h4 hb
        have h1 := hk
        refine run_setD (g := Sum.inr) (i := 3) (π := []) (kvs := v_st) (k := v_it) (a := true) (G' := [Zf (e5_list v_rows_here), Zf (e6_dict v_ranks), Zf (e2_list v_some), some (.od (encK Sum.inr Dt.bl (puts v_st v_it true))), Zf (Dt.str v_it), some (.ol (List.map e1_tup v_ways)), none, none]) Dt.bl (fun _ _ h => Sum.inr.inj h) (keyS _) (units_of hr) (pp 3 rfl) rfl ex_bl (xv 4 rfl) h1 rfl ?_
        exact run_end (.keep (.keep (.keep (.keep (.drop (.drop (.keep (.keep .nil))))))))
    · exact run_ret ex_bl
theorem ok_law_good (T : Txt K mg)  {f : Addr} {fd : FuncData} (F : FunD K "_law_good" "_law_good" (defArgs s_law_good) (defBody s_law_good) (defScope s_law_good) [] [] f fd) : FnOk P w K mg base (L2.CX P w) 1 f fd ["_law_rows_here", "_law_ranks", "_law_some"] (spR K 3 r_law_good) :=
  fnOk_mk F sc_law_good (fun cdv A outer s H E ds a hr hR hn => by
    obtain ⟨v_rows_here, v_ranks, v_some, hk, rfl, rfl⟩ := hR
    exact ⟨_, .rt _, run_law_good T  hr v_rows_here v_ranks v_some hk⟩)
theorem mk_law_good (T : Txt K mg)  {f : Addr} {fd : FuncData} (F : FunD K "_law_good" "_law_good" (defArgs s_law_good) (defBody s_law_good) (defScope s_law_good) [] [] f fd) {x : Str} (gf : mg x = some (.ref f)) : Callee P w K mg base x 1 3 r_law_good :=
  ⟨f, fd, ["_law_rows_here", "_law_ranks", "_law_some"], ok_law_good T  F, gf, F.kp, FunD.bindsN F fun _ _ _ _ _ _ us hl => match us, hl with | [_, _, _], _ => rfl⟩
end
/-! law -/
def m_law_1 (v_rows_here : (List (Str × Str × Str × (List Str)))) (v_ranks : (List (Str × Int))) (v_it : (List Str)) (v_found : Bool) : (Step (Unit) Bool) := (cond ((!(v_found == (m_law_good v_rows_here v_ranks v_it))) || (!(v_it == v_it))) (.fin false) (.nx ()))
def k_law_1 (v_rows_here : (List (Str × Str × Str × (List Str)))) (v_ranks : (List (Str × Int))) (v_it : (List Str)) (v_found : Bool) : Prop := (k_law_good v_rows_here v_ranks v_it)
def m_law_2 (v_rows_here : (List (Str × Str × Str × (List Str)))) (v_ranks : (List (Str × Int))) (v_ground : (Nat × (List (Nat × Str × Str × (List Str))) × (List (Str × Str)) × (List ((Str × Str) × Bool)) × (List (Str × (List (Nat × Str × Str × (List Str))))))) (v_st : (Unit)) (v_it : (List Str)) : Step (Unit) Bool := (m_law_1 v_rows_here v_ranks v_it (m_is_sure_set v_ground v_it))
def k_law_2 (v_rows_here : (List (Str × Str × Str × (List Str)))) (v_ranks : (List (Str × Int))) (v_ground : (Nat × (List (Nat × Str × Str × (List Str))) × (List (Str × Str)) × (List ((Str × Str) × Bool)) × (List (Str × (List (Nat × Str × Str × (List Str))))))) (v_st : (Unit)) (v_it : (List Str)) : Prop := ((k_is_sure_set v_ground v_it) ∧ (k_law_1 v_rows_here v_ranks v_it (m_is_sure_set v_ground v_it)))
def m_law_3  (v_st : (Unit)) : Bool := true
def m_law_4 (v_script : (List Int)) (v_rows_here : (List (Str × Str × Str × (List Str)))) (v_pool_here : (List Str)) (v_ranks : (List (Str × Int))) (v_ground : (Nat × (List (Nat × Str × Str × (List Str))) × (List (Str × Str)) × (List ((Str × Str) × Bool)) × (List (Str × (List (Nat × Str × Str × (List Str))))))) (v_listed_here : (List Str)) : Bool := (loop (m_law_2 v_rows_here v_ranks v_ground) (fun y => y) (m_law_3) [v_listed_here, (m_law_spoilt v_script v_pool_here v_listed_here)] ())
def k_law_4 (v_script : (List Int)) (v_rows_here : (List (Str × Str × Str × (List Str)))) (v_pool_here : (List Str)) (v_ranks : (List (Str × Int))) (v_ground : (Nat × (List (Nat × Str × Str × (List Str))) × (List (Str × Str)) × (List ((Str × Str) × Bool)) × (List (Str × (List (Nat × Str × Str × (List Str))))))) (v_listed_here : (List Str)) : Prop := ((k_law_spoilt v_script v_pool_here v_listed_here) ∧ (LoopAll (k_law_2 v_rows_here v_ranks v_ground) (fun _ => True) (m_law_2 v_rows_here v_ranks v_ground) [v_listed_here, (m_law_spoilt v_script v_pool_here v_listed_here)] ()))
def m_law_5 (v_script : (List Int)) (v_rows_here : (List (Str × Str × Str × (List Str)))) (v_pool_here : (List Str)) (v_ranks : (List (Str × Int))) (v_ground : (Nat × (List (Nat × Str × Str × (List Str))) × (List (Str × Str)) × (List ((Str × Str) × Bool)) × (List (Str × (List (Nat × Str × Str × (List Str))))))) : Bool := (m_law_4 v_script v_rows_here v_pool_here v_ranks v_ground (m_law_listed v_script v_pool_here v_ranks))
def k_law_5 (v_script : (List Int)) (v_rows_here : (List (Str × Str × Str × (List Str)))) (v_pool_here : (List Str)) (v_ranks : (List (Str × Int))) (v_ground : (Nat × (List (Nat × Str × Str × (List Str))) × (List (Str × Str)) × (List ((Str × Str) × Bool)) × (List (Str × (List (Nat × Str × Str × (List Str))))))) : Prop := ((k_law_listed v_script v_pool_here v_ranks) ∧ (k_law_4 v_script v_rows_here v_pool_here v_ranks v_ground (m_law_listed v_script v_pool_here v_ranks)))
def m_law_6 (v_script : (List Int)) (v_rows_here : (List (Str × Str × Str × (List Str)))) (v_pool_here : (List Str)) (v_ranks : (List (Str × Int))) : Bool := (m_law_5 v_script v_rows_here v_pool_here v_ranks (0, (mi_Ground___init__ (List.map (fun v_item_1 : (Str × Str × Str × (List Str)) => (m_law_made v_item_1)) v_rows_here) [])))
def k_law_6 (v_script : (List Int)) (v_rows_here : (List (Str × Str × Str × (List Str)))) (v_pool_here : (List Str)) (v_ranks : (List (Str × Int))) : Prop := (((v_rows_here).length ≤ big) ∧ (k_Ground___init__ (List.map (fun v_item_1 : (Str × Str × Str × (List Str)) => (m_law_made v_item_1)) v_rows_here) []) ∧ (k_law_5 v_script v_rows_here v_pool_here v_ranks (0, (mi_Ground___init__ (List.map (fun v_item_1 : (Str × Str × Str × (List Str)) => (m_law_made v_item_1)) v_rows_here) []))))
def m_law_7 (v_script : (List Int)) (v_rows_here : (List (Str × Str × Str × (List Str)))) (v_pool_here : (List Str)) : Bool := (m_law_6 v_script v_rows_here v_pool_here (m_law_rounds v_rows_here ([])))
def k_law_7 (v_script : (List Int)) (v_rows_here : (List (Str × Str × Str × (List Str)))) (v_pool_here : (List Str)) : Prop := ((k_law_rounds v_rows_here ([])) ∧ (k_law_6 v_script v_rows_here v_pool_here (m_law_rounds v_rows_here ([]))))
def m_law_8 (v_script : (List Int)) (v_rows_here : (List (Str × Str × Str × (List Str)))) : Bool := (m_law_7 v_script v_rows_here (m_law_pool ((m_law_cell_at v_script ((0 : Int))))))
def k_law_8 (v_script : (List Int)) (v_rows_here : (List (Str × Str × Str × (List Str)))) : Prop := ((k_law_cell_at v_script ((0 : Int))) ∧ (k_law_pool ((m_law_cell_at v_script ((0 : Int))))) ∧ (k_law_7 v_script v_rows_here (m_law_pool ((m_law_cell_at v_script ((0 : Int)))))))
def m_law (v_script : (List Int)) : Bool := (m_law_8 v_script (m_law_rows v_script ((6 : Int))))
def k_law (v_script : (List Int)) : Prop := ((k_law_rows v_script ((6 : Int))) ∧ (k_law_8 v_script (m_law_rows v_script ((6 : Int)))))
abbrev s_law : Stmt := top 29
theorem sc_law : FnScope ["_law_script", "_law_rows_here", "_law_pool_here", "_law_ranks", "_law_ground", "_law_listed_here", "_law_some", "_law_handed", "_law_found", "_law_row_here"] ["_law_script"] (defScope s_law) := ⟨rfl, rfl, rfl, by decide +kernel, rfl, by decide +kernel, by decide +kernel⟩
def r_law : List Dt → Sum Cell Xc → Prop := fun ds a => ∃ (v_script : (List Int)), k_law v_script ∧ ds = [(e3_scr v_script)] ∧ a = .inl (.fz (Dt.bl (m_law v_script)))
section
variable {P : Program} {w : World} {K : PySem.W.Frag} {mg : Str → Option Value} {base : Heap}
theorem run_law (T : Txt K mg) (c_i_Ground_Ground___init__ : CalleeBI P w K mg base "Ground" 1 3 r_Ground___init__) (c_is_sure_set : Callee P w K mg base "is_sure_set" 3 2 r_is_sure_set) (c_law_cell_at : Callee P w K mg base "_law_cell_at" 1 2 r_law_cell_at) (c_law_good : Callee P w K mg base "_law_good" 1 3 r_law_good) (c_law_listed : Callee P w K mg base "_law_listed" 2 3 r_law_listed) (c_law_made : Callee P w K mg base "_law_made" 5 1 r_law_made) (c_law_pool : Callee P w K mg base "_law_pool" 2 1 r_law_pool) (c_law_rounds : Callee P w K mg base "_law_rounds" 1 2 r_law_rounds) (c_law_rows : Callee P w K mg base "_law_rows" 3 2 r_law_rows) (c_law_spoilt : Callee P w K mg base "_law_spoilt" 2 3 r_law_spoilt) {f : Addr} {cdv : Value} {A : Around} {outer : List PySem.Env} {s : Shared} {H : Hp} {E : XK} (hr : Room 5 (A.deeper (PyProof.Rows.envOfC "law" (defScope s_law) s.heap.objs.size f cdv))) (v_script : (List Int)) (hk : k_law v_script) :
    Run (cxOf (L2.CX P w) P w K mg base ["_law_script", "_law_rows_here", "_law_pool_here", "_law_ranks", "_law_ground", "_law_listed_here", "_law_some", "_law_handed", "_law_found", "_law_row_here"] "law" (defScope s_law) f cdv A outer s H E) K (wE E) sv0 (defBody s_law) (start0 ["_law_script", "_law_rows_here", "_law_pool_here", "_law_ranks", "_law_ground", "_law_listed_here", "_law_some", "_law_handed", "_law_found", "_law_row_here"] [(e3_scr v_script)]) (.rt (.fz (Dt.bl (m_law v_script))) none) := by
  obtain ⟨h19, h20⟩ := hk
  refine run_asgE (i := 1) (m_law_rows v_script ((6 : Int))) (fun v_rows_here => .fz (e5_list v_rows_here)) (fun _ => _) (fun v_rows_here => [Zf (e3_scr v_script), Zf (e5_list v_rows_here), none, none, none, none, none, none, none, none]) (fun v_rows_here => .rt (.fz (Dt.bl (m_law_8 v_script v_rows_here))) none) (k_law_8 v_script) (EX.ev (EN.frz (en_call c_law_rows (fun _ => ⟨rfl, rfl, rfl, rfl, rfl⟩) (fun _ => hr.mono (by decide)) (fun _ => rfl) (ea_cons (xv 0 rfl) (ea_cons ex_int ea_nil)) rfl ⟨v_script, (6 : Int), h19, rfl, rfl⟩) rfl)) h20 sc_law.nd (fun _ => rfl) (fun v_rows_here hk => ?_)
  obtain ⟨h16, h17, h18⟩ := hk
  refine run_asgE (i := 2) (m_law_pool ((m_law_cell_at v_script ((0 : Int))))) (fun v_pool_here => .fz (e2_list v_pool_here)) (fun _ => _) (fun v_pool_here => [Zf (e3_scr v_script), Zf (e5_list v_rows_here), Zf (e2_list v_pool_here), none, none, none, none, none, none, none]) (fun v_pool_here => .rt (.fz (Dt.bl (m_law_7 v_script v_rows_here v_pool_here))) none) (k_law_7 v_script v_rows_here) (EX.ev (EN.frz (en_call c_law_pool (fun _ => ⟨rfl, rfl, rfl, rfl, rfl⟩) (fun _ => hr.mono (by decide)) (fun _ => rfl) (ea_cons (ex_call c_law_cell_at (fun _ => ⟨rfl, rfl, rfl, rfl, rfl⟩) (fun _ => hr.mono (by decide)) (fun _ => rfl) (ea_cons (xv 0 rfl) (ea_cons ex_int ea_nil)) rfl ⟨v_script, (0 : Int), h16, rfl, rfl⟩) ea_nil) rfl ⟨(m_law_cell_at v_script ((0 : Int))), h17, rfl, rfl⟩) rfl)) h18 sc_law.nd (fun _ => rfl) (fun v_pool_here hk => ?_)
  obtain ⟨h14, h15⟩ := hk
  refine run_asgE (i := 3) (m_law_rounds v_rows_here ([])) (fun v_ranks => .fz (e6_dict v_ranks)) (fun _ => _) (fun v_ranks => [Zf (e3_scr v_script), Zf (e5_list v_rows_here), Zf (e2_list v_pool_here), Zf (e6_dict v_ranks), none, none, none, none, none, none]) (fun v_ranks => .rt (.fz (Dt.bl (m_law_6 v_script v_rows_here v_pool_here v_ranks))) none) (k_law_6 v_script v_rows_here v_pool_here) (EX.ev (EN.frz (en_call c_law_rounds (fun _ => ⟨rfl, rfl, rfl, rfl, rfl⟩) (fun _ => hr.mono (by decide)) (fun _ => rfl) (ea_cons (xv 1 rfl) (ea_cons (EN.frz (en_lst ea_nil (Nat.le_of_ble_eq_true rfl)) rfl) ea_nil)) rfl ⟨v_rows_here, [], h14, rfl, rfl⟩) rfl)) h15 sc_law.nd (fun _ => rfl) (fun v_ranks hk => ?_)
  obtain ⟨h11, h12, h13⟩ := hk
  refine run_asgE (i := 4) (0, (mi_Ground___init__ (List.map (fun v_item_1 : (Str × Str × Str × (List Str)) => (m_law_made v_item_1)) v_rows_here) [])) (fun v_ground => .fz (enc_Ground v_ground)) (fun _ => _) (fun v_ground => [Zf (e3_scr v_script), Zf (e5_list v_rows_here), Zf (e2_list v_pool_here), Zf (e6_dict v_ranks), Zf (enc_Ground v_ground), none, none, none, none, none]) (fun v_ground => .rt (.fz (Dt.bl (m_law_5 v_script v_rows_here v_pool_here v_ranks v_ground))) none) (k_law_5 v_script v_rows_here v_pool_here v_ranks) (EX.ev (EN.frz (en_make c_i_Ground_Ground___init__ T.mk_Ground T.gc_Ground (fun _ => ⟨rfl, rfl, rfl, rfl, rfl⟩) (fun _ => hr.mono (by decide)) (fun _ => rfl) (ea_cons (EN.frz (EN.isL (x_lc (own := [("_law_row_here", 9)]) e1_tup (fun v_item_1 : (Str × Str × Str × (List Str)) => [Zf (e3_scr v_script), Zf (e5_list v_rows_here), Zf (e2_list v_pool_here), Zf (e6_dict v_ranks), none, none, none, none, none, Zf (e1_tup v_item_1)]) (fun v_item_1 : (Str × Str × Str × (List Str)) => true) (fun v_item_1 : (Str × Str × Str × (List Str)) => (enc_Rule (m_law_made v_item_1))) (fun _ => rfl) (fun _ => sc_law.nd) (src_list (fun _ => rfl) (xv 1 rfl)) h11 (fun _ => blkOk_by (by decide +kernel : blkC ["_law_script", "_law_rows_here", "_law_pool_here", "_law_ranks", "_law_ground", "_law_listed_here", "_law_some", "_law_handed", "_law_found", "_law_row_here"] (defScope s_law) _ [("_law_row_here", 9)] = true)) (by decide) (fun _ => (pg_name (i := 9) sc_law.nd rfl (by first | exact Or.inl rfl | exact Or.inr rfl))) (fun _ => (bd_name (Nat.blt_eq.mp rfl))) ⟨tYes, fun _ => pts_nil, fun _ _ F H σ fps Q E q => q F H (Up.refl E.sub)⟩ (fun v_item_1 hm hp => (ex_call c_law_made (fun _ => ⟨rfl, rfl, rfl, rfl, rfl⟩) (fun _ => hr.mono (by decide)) (fun _ => rfl) (ea_cons (xv 9 rfl) ea_nil) rfl ⟨v_item_1, rfl, rfl⟩))) (lcM_enc enc_Rule (fun v_item_1 : (Str × Str × Str × (List Str)) => (m_law_made v_item_1)) v_rows_here)) rfl) (ea_cons (EN.frz (en_lst ea_nil (Nat.le_of_ble_eq_true rfl)) rfl) ea_nil)) rfl ⟨0, (List.map (fun v_item_1 : (Str × Str × Str × (List Str)) => (m_law_made v_item_1)) v_rows_here), [], h12, rfl, rfl, rfl⟩) rfl)) h13 sc_law.nd (fun _ => rfl) (fun v_ground hk => ?_)
  obtain ⟨h9, h10⟩ := hk
  refine run_asgE (i := 5) (m_law_listed v_script v_pool_here v_ranks) (fun v_listed_here => .fz (e2_list v_listed_here)) (fun _ => _) (fun v_listed_here => [Zf (e3_scr v_script), Zf (e5_list v_rows_here), Zf (e2_list v_pool_here), Zf (e6_dict v_ranks), Zf (enc_Ground v_ground), Zf (e2_list v_listed_here), none, none, none, none]) (fun v_listed_here => .rt (.fz (Dt.bl (m_law_4 v_script v_rows_here v_pool_here v_ranks v_ground v_listed_here))) none) (k_law_4 v_script v_rows_here v_pool_here v_ranks v_ground) (EX.ev (EN.frz (en_call c_law_listed (fun _ => ⟨rfl, rfl, rfl, rfl, rfl⟩) (fun _ => hr.mono (by decide)) (fun _ => rfl) (ea_cons (xv 0 rfl) (ea_cons (xv 2 rfl) (ea_cons (xv 3 rfl) ea_nil))) rfl ⟨v_script, v_pool_here, v_ranks, h9, rfl, rfl⟩) rfl)) h10 sc_law.nd (fun _ => rfl) (fun v_listed_here hk => ?_)
  obtain ⟨h7, h8⟩ := hk
  refine run_forQ (js := [6]) (P := (k_law_2 v_rows_here v_ranks v_ground)) (Q := (fun _ => True)) (s0 := ()) e2_list (fun v_st : (Unit) => [Zf (e3_scr v_script), Zf (e5_list v_rows_here), Zf (e2_list v_pool_here), Zf (e6_dict v_ranks), Zf (enc_Ground v_ground), Zf (e2_list v_listed_here), none, none, none, none]) (fun (v_st : (Unit)) (v_it : (List Str)) => [Zf (e3_scr v_script), Zf (e5_list v_rows_here), Zf (e2_list v_pool_here), Zf (e6_dict v_ranks), Zf (enc_Ground v_ground), Zf (e2_list v_listed_here), Zf (e2_list v_it), none, none, none]) (fun x : Bool => .rt (.fz (Dt.bl x)) none) (m_law_2 v_rows_here v_ranks v_ground) (fun y => y) (m_law_3) (passes_of rfl) rfl (pg_name (i := 6) sc_law.nd rfl (by first | exact Or.inl rfl | exact Or.inr rfl)) rfl (fun _ => trivial) (src_list (fun _ => rfl) (EN.frz (en_lst (ea_cons (xv 5 rfl) (ea_cons (ex_call c_law_spoilt (fun _ => ⟨rfl, rfl, rfl, rfl, rfl⟩) (fun _ => hr.mono (by decide)) (fun _ => rfl) (ea_cons (xv 0 rfl) (ea_cons (xv 2 rfl) (ea_cons (xv 5 rfl) ea_nil))) rfl ⟨v_script, v_pool_here, v_listed_here, h7, rfl, rfl⟩) ea_nil)) (Nat.le_of_ble_eq_true rfl)) rfl)) (.keep (.keep (.keep (.keep (.keep (.keep (.keep (.keep (.keep (.keep .nil)))))))))) (fun _ _ => (bd_name (Nat.blt_eq.mp rfl))) h8 (fun v_st v_it hm hk => ?_) (fun v_st _ => ?_)
  · have h6 := hk
    refine run_asgQ (i := 7) (Gk := [Zf (e3_scr v_script), Zf (e5_list v_rows_here), Zf (e2_list v_pool_here), Zf (e6_dict v_ranks), Zf (enc_Ground v_ground), Zf (e2_list v_listed_here), Zf (e2_list v_it), Zf (e2_list v_it), none, none]) (EX.ev (EN.frz (en_list (fun _ => rfl) (EX.esL (xv 6 rfl)) (fun _ => rfl) (fun _ => T.n_list)) rfl)) sc_law.nd rfl ?_
    have hk := h6
    obtain ⟨h4, h5⟩ := hk
    refine run_asgE (i := 8) (m_is_sure_set v_ground v_it) (fun v_found => .fz (Dt.bl v_found)) (fun _ => _) (fun v_found => [Zf (e3_scr v_script), Zf (e5_list v_rows_here), Zf (e2_list v_pool_here), Zf (e6_dict v_ranks), Zf (enc_Ground v_ground), Zf (e2_list v_listed_here), Zf (e2_list v_it), Zf (e2_list v_it), Zf (Dt.bl v_found), none]) (fun v_found => (Step.out (fun v_st : (Unit) => [Zf (e3_scr v_script), Zf (e5_list v_rows_here), Zf (e2_list v_pool_here), Zf (e6_dict v_ranks), Zf (enc_Ground v_ground), Zf (e2_list v_listed_here), none, none, none, none]) (fun x : Bool => .rt (.fz (Dt.bl x)) none) (m_law_1 v_rows_here v_ranks v_it v_found))) (k_law_1 v_rows_here v_ranks v_it) (EX.ev (ex_call c_is_sure_set (fun _ => ⟨rfl, rfl, rfl, rfl, rfl⟩) (fun _ => hr.mono (by decide)) (fun _ => rfl) (ea_cons (xv 4 rfl) (ea_cons (xv 7 rfl) ea_nil)) rfl ⟨v_ground, v_it, h4, rfl, rfl⟩)) h5 sc_law.nd (fun _ => rfl) (fun v_found hk => ?_)
    have h1 := hk
    refine run_gd (fun x : (Step (Unit) Bool) => x.out (fun v_st : (Unit) => [Zf (e3_scr v_script), Zf (e5_list v_rows_here), Zf (e2_list v_pool_here), Zf (e6_dict v_ranks), Zf (enc_Ground v_ground), Zf (e2_list v_listed_here), none, none, none, none]) (fun x : Bool => .rt (.fz (Dt.bl x)) none)) (.fin false) (.nx ()) (fun _ h => nomatch h) (eb_w (ebw_orF (eb_not (b := true) (eb_val (ex_isTy (n := "bool") (fun _ => rfl) (xv 8 rfl) rfl (by decide +kernel : kitB "bool" "bool" = some true) (fun _ => rfl) (fun _ => T.n_isinstance) (fun _ => rfl) (fun _ => T.n_bool) (by decide +kernel)))) (ebw_or (eb_cmp says_neB (xv 8 rfl) (ex_call c_law_good (fun _ => ⟨rfl, rfl, rfl, rfl, rfl⟩) (fun _ => hr.mono (by decide)) (fun _ => rfl) (ea_cons (xv 1 rfl) (ea_cons (xv 3 rfl) (ea_cons (xv 6 rfl) ea_nil))) rfl ⟨v_rows_here, v_ranks, v_it, h1, rfl, rfl⟩)) (fun hb3 => (ebw_or1 (eb_cmp (says_neD (fun _ => units_of hr) (fun _ => rfl) (EqT.d (f := e2_list) (eqt_lst eqt_str) (by decide) v_it v_it)) (xv 7 rfl) (xv 6 rfl))))))) (fun hb => ?_) (fun hb => ?_)
    · exact run_ret ex_bl
    · exact run_end (.keep (.keep (.keep (.keep (.keep (.keep (.drop (.drop (.drop (.keep .nil))))))))))
  · exact run_ret ex_bl
theorem ok_law (T : Txt K mg) (c_i_Ground_Ground___init__ : CalleeBI P w K mg base "Ground" 1 3 r_Ground___init__) (c_is_sure_set : Callee P w K mg base "is_sure_set" 3 2 r_is_sure_set) (c_law_cell_at : Callee P w K mg base "_law_cell_at" 1 2 r_law_cell_at) (c_law_good : Callee P w K mg base "_law_good" 1 3 r_law_good) (c_law_listed : Callee P w K mg base "_law_listed" 2 3 r_law_listed) (c_law_made : Callee P w K mg base "_law_made" 5 1 r_law_made) (c_law_pool : Callee P w K mg base "_law_pool" 2 1 r_law_pool) (c_law_rounds : Callee P w K mg base "_law_rounds" 1 2 r_law_rounds) (c_law_rows : Callee P w K mg base "_law_rows" 3 2 r_law_rows) (c_law_spoilt : Callee P w K mg base "_law_spoilt" 2 3 r_law_spoilt) {f : Addr} {fd : FuncData} (F : FunD K "law" "law" (defArgs s_law) (defBody s_law) (defScope s_law) [] [] f fd) : FnOk P w K mg base (L2.CX P w) 6 f fd ["_law_script"] (spR K 1 r_law) :=
  fnOk_mk F sc_law (fun cdv A outer s H E ds a hr hR hn => by
    obtain ⟨v_script, hk, rfl, rfl⟩ := hR
    exact ⟨_, .rt _, run_law T c_i_Ground_Ground___init__ c_is_sure_set c_law_cell_at c_law_good c_law_listed c_law_made c_law_pool c_law_rounds c_law_rows c_law_spoilt hr v_script hk⟩)
theorem mk_law (T : Txt K mg) (c_i_Ground_Ground___init__ : CalleeBI P w K mg base "Ground" 1 3 r_Ground___init__) (c_is_sure_set : Callee P w K mg base "is_sure_set" 3 2 r_is_sure_set) (c_law_cell_at : Callee P w K mg base "_law_cell_at" 1 2 r_law_cell_at) (c_law_good : Callee P w K mg base "_law_good" 1 3 r_law_good) (c_law_listed : Callee P w K mg base "_law_listed" 2 3 r_law_listed) (c_law_made : Callee P w K mg base "_law_made" 5 1 r_law_made) (c_law_pool : Callee P w K mg base "_law_pool" 2 1 r_law_pool) (c_law_rounds : Callee P w K mg base "_law_rounds" 1 2 r_law_rounds) (c_law_rows : Callee P w K mg base "_law_rows" 3 2 r_law_rows) (c_law_spoilt : Callee P w K mg base "_law_spoilt" 2 3 r_law_spoilt) {f : Addr} {fd : FuncData} (F : FunD K "law" "law" (defArgs s_law) (defBody s_law) (defScope s_law) [] [] f fd) {x : Str} (gf : mg x = some (.ref f)) : Callee P w K mg base x 6 1 r_law :=
  ⟨f, fd, ["_law_script"], ok_law T c_i_Ground_Ground___init__ c_is_sure_set c_law_cell_at c_law_good c_law_listed c_law_made c_law_pool c_law_rounds c_law_rows c_law_spoilt F, gf, F.kp, FunD.bindsN F fun _ _ _ _ _ _ us hl => match us, hl with | [_], _ => rfl⟩
end
end Lw

namespace Lw
open PySem PySem.Spec L2 Vs TL
theorem mix_ok (a k : Int) : k_law_mix a k := by
  unfold k_law_mix k_law_mix_2 k_law_mix_1 mulOk
  generalize a + 7919 * k + 12345 = x
  have h1 := mod_nn x (show (0 : Int) < 2147483629 by decide)
  refine ⟨.inl ⟨by omega, by omega⟩, ?_⟩
  generalize x % 2147483629 * (x % 2147483629) % 2147483629 * 48271 = y
  have h3 := mod_nn y (show (0 : Int) < 2147483647 by decide)
  exact .inl ⟨by omega, by omega⟩
theorem cell_ok (s : List Int) {k : Int} (h : 0 ≤ k) : k_law_cell_at s k := fun e => inI_nn h (of_decide_eq_true e)
theorem word_ok (c k : Int) {sg : Str} (h0 : 0 < sg.length) : k_law_word c k sg ∧ 1 ≤ (m_law_word c k sg).length ∧ (m_law_word c k sg).length ≤ 8 := by
  unfold k_law_word m_law_word k_law_word_9 m_law_word_9 k_law_word_8 m_law_word_8
  have h8 := mod_nn c (show (0 : Int) < 8 by decide)
  generalize c / 8 % (1 + c % 8) = at_
  have key := loop_go (step := m_law_word_6 c k sg at_) (io := fun y => y) (k := m_law_word_7) (P := k_law_word_6 c k sg at_) (Q := fun _ => True) (xs := List.range (1 + c % 8).toNat) (s := (Str.ofString "")) (fun i (s : Str) => s.length = i) (by rw [len_tl, tl_nil]; rfl) (fun i x s hx hs => ?_) (fun _ _ => trivial)
  · obtain ⟨ha, s', hb, hc⟩ := key
    rw [List.length_range] at hc
    refine ⟨⟨by omega, ⟨by omega, by omega⟩, ha⟩, ?_⟩
    rw [hb]
    refine ⟨?_, ?_⟩
    · show 1 ≤ s'.length; omega
    · show s'.length ≤ 8; omega
  · obtain ⟨rfl, hi⟩ := mem_range_get hx
    refine ⟨?_, _, .inl rfl, ?_⟩
    · show k_law_word_4 sg s (cond ((x : Int) == at_) (m_law_word_2 (c / 64 + 5 * (x : Int) + k)) (c / 64 + 5 * (x : Int)))
      generalize cond ((x : Int) == at_) (m_law_word_2 (c / 64 + 5 * (x : Int) + k)) (c / 64 + 5 * (x : Int)) = z
      have hm := mod_nn z (n := (sg.length : Int)) (by omega)
      unfold k_law_word_4
      refine ⟨by omega, atI_nn hm.1 (by rw [← str_len]; exact hm.2), ?_⟩
      rw [len_sgn, hs]
      exact smallS (by omega)
    · show (s ++ sgn sg ((cond ((x : Int) == at_) (m_law_word_2 (c / 64 + 5 * (x : Int) + k)) (c / 64 + 5 * (x : Int))) % (sg.length : Int))).length = x + 1
      rw [len_app, hs, len_sgn]
theorem pool_ok (c : Int) : k_law_pool c ∧ 1 ≤ (m_law_pool c).length ∧ (m_law_pool c).length ≤ 18 := by
  unfold k_law_pool m_law_pool
  have hw : ∀ w ∈ List.map (fun v_item : Nat => (m_law_word ((c / (9 : Int))) ((v_item : Int)) ((Str.ofString "abcdefghijklmnopqrstuvwxyz")))) (List.range (Int.toNat (5 : Int))), w.length ≤ 8 := fun w hw => by
    obtain ⟨i, _, rfl⟩ := List.mem_map.mp hw
    exact (word_ok _ _ (by decide +kernel)).2.2
  have hl : (List.map (fun v_item : Nat => (m_law_word ((c / (9 : Int))) ((v_item : Int)) ((Str.ofString "abcdefghijklmnopqrstuvwxyz")))) (List.range (Int.toNat (5 : Int)))).length = 5 := by rw [List.length_map, List.length_range]; rfl
  generalize List.map (fun v_item : Nat => (m_law_word ((c / (9 : Int))) ((v_item : Int)) ((Str.ofString "abcdefghijklmnopqrstuvwxyz")))) (List.range (Int.toNat (5 : Int))) = W at hw hl
  suffices h : k_law_pool_5 c W ∧ 1 ≤ (m_law_pool_5 c W).length ∧ (m_law_pool_5 c W).length ≤ 18 from
    ⟨⟨⟨by decide, by decide⟩, by rw [List.length_range]; decide, fun i _ => (word_ok _ _ (by decide +kernel)).1, h.1⟩, h.2⟩
  unfold k_law_pool_5 m_law_pool_5 k_law_pool_4 m_law_pool_4
  have h9 := mod_nn c (show (0 : Int) < 9 by decide)
  have hi : ∀ j : Int, 0 ≤ j → j < 5 → inI W j = true ∧ (itm W j).length ≤ 8 := fun j a b => ⟨inI_nn a (by omega), hw _ (itm_in a (by omega))⟩
  have i3 := hi 3 (by decide) (by decide)
  have i4 := hi 4 (by decide) (by decide)
  have c1 := lenS "(" (n := 1) rfl
  have c2 := lenS ")" (n := 1) rfl
  have c3 := lenS "," (n := 1) rfl
  have c4 := lenS "-" (n := 1) rfl
  have c0 := lenS "" (n := 0) rfl
  obtain ⟨a, s', b, d⟩ := loop_go (step := m_law_pool_2 W) (io := fun y => y) (k := m_law_pool_3) (P := k_law_pool_2 W) (Q := fun _ => True) (xs := List.range (Int.toNat ((1 : Int) + (c % (9 : Int))))) (s := ([] : List Str)) (fun i (s : List Str) => s.length = 2 * i) rfl (fun i x s hx hs => by
    obtain ⟨rfl, hlt⟩ := mem_range_get hx
    have d3 : (0 : Int) ≤ (x : Int) / 3 ∧ (x : Int) / 3 < 3 := ⟨by omega, by omega⟩
    have m3 := mod_nn (x : Int) (show (0 : Int) < 3 by decide)
    have im := hi _ m3.1 (by omega)
    refine ⟨?_, _, .inl rfl, ?_⟩
    · unfold k_law_pool_2
      have hin := inI_nn (xs := [(Str.ofString ""), (((Str.ofString "(") ++ (itm W (3 : Int))) ++ (Str.ofString ")")), (((((Str.ofString "(") ++ (itm W (4 : Int))) ++ (Str.ofString ",")) ++ (itm W (3 : Int))) ++ (Str.ofString ")"))]) d3.1 d3.2
      have hmem := itm_in (xs := [(Str.ofString ""), (((Str.ofString "(") ++ (itm W (3 : Int))) ++ (Str.ofString ")")), (((((Str.ofString "(") ++ (itm W (4 : Int))) ++ (Str.ofString ",")) ++ (itm W (3 : Int))) ++ (Str.ofString ")"))]) d3.1 d3.2
      have hpl : (itm [(Str.ofString ""), (((Str.ofString "(") ++ (itm W (3 : Int))) ++ (Str.ofString ")")), (((((Str.ofString "(") ++ (itm W (4 : Int))) ++ (Str.ofString ",")) ++ (itm W (3 : Int))) ++ (Str.ofString ")"))] ((x : Int) / 3)).length ≤ 19 := by
        generalize itm [(Str.ofString ""), (((Str.ofString "(") ++ (itm W (3 : Int))) ++ (Str.ofString ")")), (((((Str.ofString "(") ++ (itm W (4 : Int))) ++ (Str.ofString ",")) ++ (itm W (3 : Int))) ++ (Str.ofString ")"))] ((x : Int) / 3) = z at hmem
        simp only [List.mem_cons, List.not_mem_nil, or_false] at hmem
        rcases hmem with rfl | rfl | rfl
        · omega
        · simp only [len_app]; omega
        · simp only [len_app]; omega
      generalize itm [(Str.ofString ""), (((Str.ofString "(") ++ (itm W (3 : Int))) ++ (Str.ofString ")")), (((((Str.ofString "(") ++ (itm W (4 : Int))) ++ (Str.ofString ",")) ++ (itm W (3 : Int))) ++ (Str.ofString ")"))] ((x : Int) / 3) = z at hpl
      unfold k_law_pool_1
      simp only [len_app, List.length_append, List.length_cons, List.length_nil]
      exact ⟨i3.1, smallS (by omega), smallS (by omega), i4.1, smallS (by omega), smallS (by omega), i3.1, smallS (by omega), smallS (by omega), hin, im.1, smallS (by omega), smallL (by omega), im.1, smallS (by omega), smallS (by omega), smallL (by omega)⟩
    · simp only [List.length_append, List.length_cons, List.length_nil]; omega) (fun _ _ => trivial)
  rw [List.length_range] at d
  refine ⟨⟨⟨by omega, by omega⟩, a⟩, ?_⟩
  rw [b]
  show 1 ≤ s'.length ∧ s'.length ≤ 18
  omega
theorem labels_ok (c : Int) : k_law_labels c ∧ (m_law_labels c).length = 12 := by
  unfold k_law_labels m_law_labels
  refine ⟨⟨⟨by decide, by decide⟩, by rw [List.length_range]; decide, fun i _ => (word_ok _ _ (by decide +kernel)).1⟩, ?_⟩
  rw [List.length_map, List.length_range]; rfl
abbrev sorts8 : List Str := [(Str.ofString "fact"), (Str.ofString "sure"), (Str.ofString "sure"), (Str.ofString "sure"), (Str.ofString "sure"), (Str.ofString "sure"), (Str.ofString "most"), (Str.ofString "block")]
structure GoodRow (r : Str × Str × Str × List Str) : Prop where
  so : r.1 ∈ sorts8
  fb : r.1 = Str.ofString "fact" → r.2.2.2 = []
  le : r.2.2.2.length ≤ 4
theorem digits_ok (c : Int) {P L : List Str} (h1 : 1 ≤ P.length) (h2 : P.length ≤ 18) (hL : L.length = 12) : k_law_row_by_digits c P L ∧ GoodRow (m_law_row_by_digits c P L) := by
  unfold k_law_row_by_digits m_law_row_by_digits k_law_row_by_digits_10 m_law_row_by_digits_10 k_law_row_by_digits_9 m_law_row_by_digits_9 k_law_row_by_digits_8 m_law_row_by_digits_8 k_law_row_by_digits_7 m_law_row_by_digits_7 k_law_row_by_digits_6 m_law_row_by_digits_6 k_law_row_by_digits_5 m_law_row_by_digits_5 k_law_row_by_digits_4 m_law_row_by_digits_4
  have h8 := mod_nn c (show (0 : Int) < 8 by decide)
  have h12 := mod_nn (c / 8) (show (0 : Int) < 12 by decide)
  have h96 := mod_nn (c / 96) (show (0 : Int) < (P.length : Int) by omega)
  have h5 := mod_nn (c / 96 / (P.length : Int)) (show (0 : Int) < 5 by decide)
  have hs := itm_in (xs := sorts8) h8.1 h8.2
  obtain ⟨a, s', b, d⟩ := loop_go (step := m_law_row_by_digits_2 P (P.length : Int)) (io := fun y => y) (k := m_law_row_by_digits_3 (itm sorts8 (c % 8)) (itm L (c / 8 % 12)) (itm P (c / 96 % (P.length : Int)))) (P := k_law_row_by_digits_2 P (P.length : Int)) (Q := fun _ => True) (xs := List.range (c / 96 / (P.length : Int) % 5).toNat) (s := (([] : List Str), c / 480 / (P.length : Int))) (fun i s => s.1.length = i) rfl (fun i x s hx hs => by
    obtain ⟨rfl, hlt⟩ := mem_range_get hx
    have hm := mod_nn s.2 (show (0 : Int) < (P.length : Int) by omega)
    refine ⟨⟨by omega, inI_nn hm.1 hm.2, smallL (by omega), by omega, by omega⟩, _, .inl rfl, ?_⟩
    show (s.1 ++ [_]).length = x + 1
    rw [List.length_append, hs]; rfl) (fun _ _ => trivial)
  rw [List.length_range] at d
  refine ⟨⟨inI_nn h8.1 h8.2, inI_nn h12.1 (by omega), by omega, inI_nn h96.1 h96.2, ⟨by omega, by omega⟩, ⟨by omega, by omega⟩, ⟨by omega, by omega⟩, a⟩, ?_⟩
  rw [b]
  unfold m_law_row_by_digits_3
  cases e : itm sorts8 (c % 8) == Str.ofString "fact" with
  | true => exact ⟨hs, fun _ => rfl, by show 0 ≤ 4; omega⟩
  | false =>
    refine ⟨hs, fun z => ?_, by show s'.1.length ≤ 4; omega⟩
    have z' : itm sorts8 (c % 8) = Str.ofString "fact" := z
    rw [z', beq_self_eq_true] at e
    cases e
theorem row_ok (m k : Int) {P L : List Str} (h1 : 1 ≤ P.length) (h2 : P.length ≤ 18) (hL : L.length = 12) (st : Int) : k_law_row m k P L st ∧ GoodRow (m_law_row m k P L st) := by
  unfold k_law_row m_law_row k_law_row_12 m_law_row_12 k_law_row_11 m_law_row_11 k_law_row_10 m_law_row_10
  have hp : ∀ x : Int, inI P (x % (P.length : Int)) = true := fun x => by
    have := mod_nn x (show (0 : Int) < (P.length : Int) by omega)
    exact inI_nn this.1 this.2
  have h5 := mod_nn (m / 200) (show (0 : Int) < 5 by decide)
  have h6 := mod_nn (m / 200) (show (0 : Int) < 6 by decide)
  have h8 := mod_nn m (show (0 : Int) < 8 by decide)
  have h12 := mod_nn (m / 1000) (show (0 : Int) < 12 by decide)
  have hpos : (0 : Int) < (P.length : Int) := by omega
  have many := itm_in (xs := [(1 : Int), (2 : Int), (0 : Int), (1 : Int), (2 : Int), (1 : Int)]) h6.1 h6.2
  have hmany : 0 ≤ itm [(1 : Int), (2 : Int), (0 : Int), (1 : Int), (2 : Int), (1 : Int)] (m / 200 % 6) ∧ itm [(1 : Int), (2 : Int), (0 : Int), (1 : Int), (2 : Int), (1 : Int)] (m / 200 % 6) ≤ 2 := by
    generalize itm [(1 : Int), (2 : Int), (0 : Int), (1 : Int), (2 : Int), (1 : Int)] (m / 200 % 6) = z at many
    simp only [List.mem_cons, List.not_mem_nil, or_false] at many
    omega
  have hst : (cond (st == (1 : Int)) (m_law_row_6 m k P (P.length : Int) (itm P (((2 : Int) * k) % (P.length : Int)))) ((itm P ((m / (8 : Int)) % (P.length : Int))), (List.map (fun v_item : Nat => (itm P ((m_law_mix m (((20 : Int) + (v_item : Int)))) % (P.length : Int)))) (List.range (Int.toNat ((m / (200 : Int)) % (5 : Int))))))).2.length ≤ 4 := by
    cases st == (1 : Int) with
    | true =>
      show (List.map _ (List.range _)).length ≤ 4
      rw [List.length_map, List.length_range]; omega
    | false =>
      show (List.map _ (List.range _)).length ≤ 4
      rw [List.length_map, List.length_range]; omega
  have hk6 : k_law_row_6 m k P (P.length : Int) (itm P (((2 : Int) * k) % (P.length : Int))) := by
    unfold k_law_row_6 k_law_row_5
    exact ⟨inI_nn h6.1 h6.2, ⟨by omega, by omega⟩, by rw [List.length_range]; exact smallL (by omega), fun i _ => ⟨mix_ok _ _, hpos, hp _⟩⟩
  generalize (cond (st == (1 : Int)) (m_law_row_6 m k P (P.length : Int) (itm P (((2 : Int) * k) % (P.length : Int)))) ((itm P ((m / (8 : Int)) % (P.length : Int))), (List.map (fun v_item : Nat => (itm P ((m_law_mix m (((20 : Int) + (v_item : Int)))) % (P.length : Int)))) (List.range (Int.toNat ((m / (200 : Int)) % (5 : Int))))))) = hb at hst
  have hs := itm_in (xs := sorts8) h8.1 h8.2
  unfold k_law_row_9 m_law_row_9 k_law_row_8 m_law_row_8 k_law_row_7 m_law_row_7
  refine ⟨⟨hpos, hp _, ⟨by omega, by omega⟩, by rw [List.length_range]; exact smallL (by omega), fun i _ => ⟨mix_ok _ _, hpos, hp _⟩, fun _ => ⟨hpos, hp _, hk6⟩, inI_nn h8.1 h8.2, fun _ => inI_nn h12.1 (by omega)⟩, ?_⟩
  generalize itm sorts8 (m % 8) = so at hs
  generalize ((st == (0 : Int)) || (((m / (1000 : Int)) % (4 : Int)) == (0 : Int))) = q
  cases e : so == Str.ofString "fact" with
  | true =>
    cases q with
    | true => exact ⟨hs, fun _ => rfl, by show 0 ≤ 4; omega⟩
    | false =>
      refine ⟨by show Str.ofString "sure" ∈ sorts8; simp, fun z => ?_, hst⟩
      have z' : Str.ofString "sure" = Str.ofString "fact" := z
      exact absurd z' (by decide +kernel)
  | false =>
    refine ⟨hs, fun z => ?_, hst⟩
    have z' : so = Str.ofString "fact" := z
    rw [z', beq_self_eq_true] at e
    cases e
theorem rows_ok {ns : List Int} (hn : ns.length ≤ 63) (st : Int) : k_law_rows ns st ∧ (m_law_rows ns st).length ≤ 63 ∧ ∀ r ∈ m_law_rows ns st, GoodRow r := by
  unfold k_law_rows m_law_rows k_law_rows_4 m_law_rows_4 k_law_rows_3 m_law_rows_3 k_law_rows_2 m_law_rows_2 k_law_rows_1 m_law_rows_1
  obtain ⟨p1, p2, p3⟩ := pool_ok (m_law_cell_at ns 0)
  obtain ⟨l1, l2⟩ := labels_ok (m_law_cell_at ns 0)
  have hc : (cut ns (some st) (some (63 : Int))).length ≤ 63 := Nat.le_trans (len_cutL _ _ _) hn
  generalize cut ns (some st) (some (63 : Int)) = C at hc
  have he : (enum C).length = C.length := by unfold enum; rw [List.length_mapIdx]
  refine ⟨⟨cell_ok _ (by decide), p1, cell_ok _ (by decide), l1, cell_ok _ (by decide), fun _ => ⟨smallL (by omega), fun c _ => (digits_ok c p2 p3 l2).1⟩, fun _ => ⟨smallL (by omega), fun c _ => ⟨mix_ok _ _, (row_ok _ _ p2 p3 l2 _).1⟩⟩⟩, ?_⟩
  cases decide ((1 : Int) < m_law_cell_at ns 1 % 4) with
  | true =>
    refine ⟨by show (List.map _ C).length ≤ 63; rw [List.length_map]; exact hc, fun r hr => ?_⟩
    obtain ⟨c, _, rfl⟩ := List.mem_map.mp (show r ∈ List.map _ C from hr)
    exact (digits_ok c p2 p3 l2).2
  | false =>
    refine ⟨by show (List.map _ (enum C)).length ≤ 63; rw [List.length_map]; omega, fun r hr => ?_⟩
    obtain ⟨c, _, rfl⟩ := List.mem_map.mp (show r ∈ List.map _ (enum C) from hr)
    exact (row_ok _ _ p2 p3 l2 _).2
end Lw

namespace Lw
open PySem PySem.Spec L2 Vs TL
abbrev Rl := Nat × Str × Str × List Str
abbrev Rw0 := Str × Str × Str × List Str
def vr (x : Rl) : Ru := (m_d_Rule_is_sure x, x.2.2.1, x.2.2.2)
def vw (r : Rw0) : Ru := (List.elem r.1 [(Str.ofString "fact"), (Str.ofString "sure")], r.2.2.1, r.2.2.2)
theorem made_view {r : Rw0} (g : GoodRow r) : vr (m_law_made r) = vw r := by
  obtain ⟨so, lb, h, bd⟩ := r
  obtain ⟨g1, g2, g3⟩ := g
  dsimp only at g1 g2 g3
  have e1 : (Str.ofString "sure" == Str.ofString "fact") = false := by decide +kernel
  have e2 : (Str.ofString "most" == Str.ofString "fact") = false := by decide +kernel
  have e3 : (Str.ofString "most" == Str.ofString "sure") = false := by decide +kernel
  have e4 : (Str.ofString "block" == Str.ofString "fact") = false := by decide +kernel
  have e5 : (Str.ofString "block" == Str.ofString "sure") = false := by decide +kernel
  have e6 : (Str.ofString "block" == Str.ofString "most") = false := by decide +kernel
  simp only [sorts8, List.mem_cons, List.not_mem_nil, or_false] at g1
  unfold vr vw m_law_made m_law_made_1
  have hf : (Str.ofString "fact") = so → vr (cond (so == (Str.ofString "fact")) (0, (mi_Fact___init__ h)) (cond (so == (Str.ofString "sure")) (1, (mi_Rule___init___l lb h bd)) (cond (so == (Str.ofString "most")) (2, (mi_Rule___init___t lb h bd)) (3, (mi_Rule___init___t lb h bd))))) = (List.elem so [(Str.ofString "fact"), (Str.ofString "sure")], h, bd) := by
    rintro rfl
    rw [g2 rfl]
    simp only [beq_self_eq_true, cond]
    rfl
  have hs : (Str.ofString "sure") = so → vr (cond (so == (Str.ofString "fact")) (0, (mi_Fact___init__ h)) (cond (so == (Str.ofString "sure")) (1, (mi_Rule___init___l lb h bd)) (cond (so == (Str.ofString "most")) (2, (mi_Rule___init___t lb h bd)) (3, (mi_Rule___init___t lb h bd))))) = (List.elem so [(Str.ofString "fact"), (Str.ofString "sure")], h, bd) := by
    rintro rfl
    simp only [e1, beq_self_eq_true, cond]
    rfl
  have hm : (Str.ofString "most") = so → vr (cond (so == (Str.ofString "fact")) (0, (mi_Fact___init__ h)) (cond (so == (Str.ofString "sure")) (1, (mi_Rule___init___l lb h bd)) (cond (so == (Str.ofString "most")) (2, (mi_Rule___init___t lb h bd)) (3, (mi_Rule___init___t lb h bd))))) = (List.elem so [(Str.ofString "fact"), (Str.ofString "sure")], h, bd) := by
    rintro rfl
    simp only [e2, e3, beq_self_eq_true, cond]
    unfold vr
    simp only [List.elem, e2, e3]
    rfl
  have hb : (Str.ofString "block") = so → vr (cond (so == (Str.ofString "fact")) (0, (mi_Fact___init__ h)) (cond (so == (Str.ofString "sure")) (1, (mi_Rule___init___l lb h bd)) (cond (so == (Str.ofString "most")) (2, (mi_Rule___init___t lb h bd)) (3, (mi_Rule___init___t lb h bd))))) = (List.elem so [(Str.ofString "fact"), (Str.ofString "sure")], h, bd) := by
    rintro rfl
    simp only [e4, e5, e6, cond]
    unfold vr
    simp only [List.elem, e4, e5]
    rfl
  rcases g1 with e | e | e | e | e | e | e | e
  · exact hf e.symm
  · exact hs e.symm
  · exact hs e.symm
  · exact hs e.symm
  · exact hs e.symm
  · exact hs e.symm
  · exact hm e.symm
  · exact hb e.symm
theorem rests_eq (x : Rl) (t : Th) : m_rests_on x t = x.2.2.2.all fun q => hasK t q := by
  unfold m_rests_on
  rw [loop_all (p := fun q => !hasK t q) (y := false) (fun q => rfl)]
  unfold m_rests_on_2
  induction x.2.2.2 with
  | nil => rfl
  | cons q l ih =>
    rw [List.any_cons, List.all_cons, ← ih]
    cases hasK t q <;> cases List.any l (fun q => !hasK t q) <;> rfl
theorem fresh_ok {xs : List Rl} {t : Th} (hl : xs.length ≤ 63) : k_fresh_heads xs t ∧ m_fresh_heads xs t = uniq (heads (xs.map vr) t) := by
  unfold k_fresh_heads m_fresh_heads k_fresh_heads_4 m_fresh_heads_4
  obtain ⟨a, b, _⟩ := loop_fold (step := m_fresh_heads_2 t) (io := fun y => y) (k := m_fresh_heads_3) (P := k_fresh_heads_2 t) (Q := fun _ => True) (fun d x => cond (okR t (vr x)) (putT d (vr x).2.1) d) (Kd (xs.map fun x => x.2.2.1)) (xs := xs) (s := ([] : Th)) Kd.nil (fun d x hx hd => by
    refine ⟨fun _ => ?_, ?_, ?_⟩
    · have := hd.len
      rw [List.length_map] at this
      exact smallL (by omega)
    · show Step.nx (cond ((m_d_Rule_is_sure x) && ((!hasK t x.2.2.1) && (m_rests_on x t))) (puts d x.2.2.1 true) d) = _
      rw [rests_eq]
      rfl
    · cases okR t (vr x) with
      | true => exact hd.put (List.mem_map.mpr ⟨x, hx, rfl⟩)
      | false => exact hd) (fun _ => trivial)
  refine ⟨a, ?_⟩
  rw [b, fold_heads vr t putT xs []]
  rfl
theorem kd_known {U : List Str} : ∀ (K : List Str) (d : Th), (∀ x ∈ K, x ∈ U) → Kd U d → Kd U (K.foldl putT d)
  | [], _, _, h => h
  | x :: K, d, hx, h => kd_known K (putT d x) (fun y hy => hx y (List.mem_cons_of_mem _ hy)) (h.put (hx x (by simp)))
/-! the law's own rounds -/
theorem all_nil (t : Th) : ∀ bd : List Str, ((lcF (fun v_item_1 : Str => (!hasK t v_item_1)) (fun v_item_1 : Str => v_item_1) bd) == []) = bd.all fun q => hasK t q
  | [] => rfl
  | q :: l => by
    have ih := all_nil t l
    unfold lcF at ih ⊢
    rw [List.filterMap_cons, List.all_cons, ← ih]
    cases h : hasK t q with
    | true => simp [h]
    | false => simp [h]
section
variable {R : List Rw0} {U : List Str} (hl : R.length ≤ 63) (hb : ∀ r ∈ R, r.2.2.2.length ≤ 4) (hU : ∀ a ∈ R.map vw, a.2.1 ∈ U) (hn : U.length ≤ 200)
include hl hb hU hn
theorem law_step {t : Th} {r : Rk} {c : Int} {fr : List Str} (h : Kd2 U U (t, r)) :
    k_law_rounds_12 R (c, fr, t, r) ∧ m_law_rounds_11 R (c, fr, t, r) = .nx (c + 1, heads (R.map vw) t, ((heads (R.map vw) t).foldl (putB (c + 1)) (t, r)).1, ((heads (R.map vw) t).foldl (putB (c + 1)) (t, r)).2) := by
  unfold k_law_rounds_12 m_law_rounds_11 k_law_rounds_10 m_law_rounds_10
  have inner : ∀ fs : List Str, (∀ x ∈ fs, x ∈ U) → k_law_rounds_9 (c, fr, t, r) fs ∧ m_law_rounds_9 (c, fr, t, r) fs = .nx (c + 1, fs, (fs.foldl (putB (c + 1)) (t, r)).1, (fs.foldl (putB (c + 1)) (t, r)).2) := by
    intro fs hf
    unfold k_law_rounds_9 m_law_rounds_9
    obtain ⟨a, b, _⟩ := loop_fold (step := m_law_rounds_7 (c, fr, t, r)) (io := fun y => Step.fin y) (k := m_law_rounds_8 (c, fr, t, r) fs) (P := k_law_rounds_7 (c, fr, t, r)) (Q := fun _ => True) (putB (c + 1)) (Kd2 U U) (xs := fs) (s := (t, r)) h (fun d x hx hd => by
      have h1 := hd.t.len
      have h2 := hd.r.len
      exact ⟨⟨smallL (by omega), smallL (by omega)⟩, rfl, hd.put (hf x hx) (hf x hx) _⟩) (fun _ => trivial)
    exact ⟨a, b⟩
  have hh : ∀ x ∈ heads (R.map vw) t, x ∈ U := fun x hx => by
    obtain ⟨a, ha, rfl⟩ := List.mem_map.mp (heads_mem hx)
    exact hU a ha
  have hfold : R.foldl (fun d x => cond (okR t (vw x)) (d ++ [(vw x).2.1]) d) [] = heads (R.map vw) t := by
    rw [fold_heads vw t (fun d h => d ++ [h]) R []]
    have go : ∀ (hs d : List Str), hs.foldl (fun d h => d ++ [h]) d = d ++ hs := by
      intro hs
      induction hs with
      | nil => intro d; simp
      | cons x l ih => intro d; rw [List.foldl_cons, ih]; simp
    rw [go]; rfl
  obtain ⟨a, b, _⟩ := loop_foldi (step := m_law_rounds_6 (c, fr, t, r)) (io := fun y => Step.fin y) (k := m_law_rounds_9 (c, fr, t, r)) (P := k_law_rounds_6 (c, fr, t, r)) (Q := k_law_rounds_9 (c, fr, t, r)) (fun d x => cond (okR t (vw x)) (d ++ [(vw x).2.1]) d) (fun i (d : List Str) => d.length ≤ i) (xs := R) (i0 := 0) (s := ([] : List Str)) (Nat.zero_le _) (fun i d x hx hi hd => by
    have e : ((List.elem x.1 [(Str.ofString "fact"), (Str.ofString "sure")]) && ((!hasK t x.2.2.1) && ((lcF (fun v_item_3 : Str => (!hasK t v_item_3)) (fun v_item_3 : Str => v_item_3) x.2.2.2) == []))) = okR t (vw x) := by
      rw [all_nil]; rfl
    refine ⟨⟨fun _ _ => smallL (by have := hb x hx; omega), fun _ => smallL (by omega)⟩, ?_, ?_⟩
    · show Step.nx (cond ((List.elem x.1 [(Str.ofString "fact"), (Str.ofString "sure")]) && ((!hasK t x.2.2.1) && ((lcF (fun v_item_3 : Str => (!hasK t v_item_3)) (fun v_item_3 : Str => v_item_3) x.2.2.2) == []))) (d ++ [x.2.2.1]) d) = _
      rw [e]; rfl
    · cases okR t (vw x) with
      | true => show (d ++ [_]).length ≤ i + 1; rw [List.length_append]; show d.length + 1 ≤ i + 1; omega
      | false => show d.length ≤ i + 1; omega) (fun _ => by rw [hfold]; exact (inner _ hh).1)
  refine ⟨fun _ => a, ?_⟩
  rw [b, hfold]
  exact (inner _ hh).2
theorem law_go : ∀ (m : Nat) (c : Int) {s : Th × Rk}, Kd2 U U s → waits (R.map vw) s.1 ≤ m → ∀ n, m < n → WAll (k_law_rounds_12 R) (fun _ => True) (m_law_rounds_12 R) (m_law_rounds_11 R) n (c, heads (R.map vw) s.1, ((heads (R.map vw) s.1).foldl (putB c) s).1, ((heads (R.map vw) s.1).foldl (putB c) s).2) ∧
    wloop (m_law_rounds_12 R) (m_law_rounds_11 R) (fun y => y) m_law_rounds_13 n (c, heads (R.map vw) s.1, ((heads (R.map vw) s.1).foldl (putB c) s).1, ((heads (R.map vw) s.1).foldl (putB c) s).2) = (sureGo (R.map vw) m c s).2 := by
  intro m
  induction m with
  | zero =>
    intro c s h hw n hn'
    cases n with
    | zero => omega
    | succ n =>
      have e := heads_nil_of (rs := R.map vw) (t := s.1) (by omega)
      rw [e]
      have hp := (law_step hl hb hU hn (c := c) (fr := []) (t := s.1) (r := s.2) h).1
      unfold WAll wloop
      exact ⟨⟨hp, (fun z => by cases z), fun _ => trivial⟩, rfl⟩
  | succ m ih =>
    intro c s h hw n hn'
    cases n with
    | zero => omega
    | succ n =>
      have h' : Kd2 U U ((heads (R.map vw) s.1).foldl (putB c) s) := h.fold fun x hx => by
        obtain ⟨a, ha, rfl⟩ := List.mem_map.mp (heads_mem hx)
        exact ⟨hU a ha, hU a ha⟩
      obtain ⟨hp, hs⟩ := law_step hl hb hU hn (c := c) (fr := heads (R.map vw) s.1) (t := ((heads (R.map vw) s.1).foldl (putB c) s).1) (r := ((heads (R.map vw) s.1).foldl (putB c) s).2) h'
      have et : m_law_rounds_12 R (c, heads (R.map vw) s.1, ((heads (R.map vw) s.1).foldl (putB c) s).1, ((heads (R.map vw) s.1).foldl (putB c) s).2) = !(heads (R.map vw) s.1 == []) := rfl
      unfold WAll wloop
      rw [et, hs]
      cases e : heads (R.map vw) s.1 == [] with
      | true =>
        refine ⟨⟨hp, (fun z => by cases z), fun _ => trivial⟩, ?_⟩
        have e0 : heads (R.map vw) s.1 = [] := by
          cases q : heads (R.map vw) s.1 with
          | nil => rfl
          | cons x l => rw [q] at e; cases e
        rw [sureGo_stop e0]
        show ((heads (R.map vw) s.1).foldl (putB c) s).2 = s.2
        rw [e0]; rfl
      | false =>
        have hne : heads (R.map vw) s.1 ≠ [] := fun z => by rw [z] at e; cases e
        have lt := waits_lt (c := c) hne
        obtain ⟨a, b⟩ := ih (c + 1) h' (by omega) n (by omega)
        refine ⟨⟨hp, fun _ => a, fun z => by cases z⟩, ?_⟩
        refine b.trans ?_
        conv => rhs; unfold sureGo
        rw [e]; rfl
end
theorem rounds_ok {R : List Rw0} (hl : R.length ≤ 63) (hb : ∀ r ∈ R, r.2.2.2.length ≤ 4) {K : List Str} (hK : K.length ≤ 3) : k_law_rounds R K ∧ m_law_rounds R K = (sureGo (R.map vw) 63 1 (K.foldl putT [], [])).2 := by
  have kd : Kd2 (K ++ (R.map vw).map (·.2.1)) (K ++ (R.map vw).map (·.2.1)) (K.foldl putT [], ([] : Rk)) := ⟨kd_known K [] (fun x hx => List.mem_append_left _ hx) Kd.nil, Kd.nil⟩
  have hU : ∀ a ∈ R.map vw, a.2.1 ∈ K ++ (R.map vw).map (·.2.1) := fun a ha => List.mem_append_right _ (List.mem_map.mpr ⟨a, ha, rfl⟩)
  have hlen : (K ++ (R.map vw).map (·.2.1)).length ≤ 200 := by rw [List.length_append, List.length_map, List.length_map]; omega
  have hw : waits (R.map vw) (K.foldl putT [], ([] : Rk)).1 ≤ 63 := by
    have := waits_le (R.map vw) (K.foldl putT [])
    rw [List.length_map] at this
    exact Nat.le_trans this hl
  have main : k_law_rounds_16 R (K.foldl putT []) ∧ m_law_rounds_16 R (K.foldl putT []) = (sureGo (R.map vw) 63 1 (K.foldl putT [], [])).2 := by
    unfold k_law_rounds_16 m_law_rounds_16 k_law_rounds_15 m_law_rounds_15 k_law_rounds_14 m_law_rounds_14
    obtain ⟨hp, hs⟩ := law_step hl hb hU hlen (c := 0) (fr := [Str.ofString ""]) kd
    obtain ⟨a, b⟩ := law_go hl hb hU hlen 63 (0 + 1) kd hw 999999 (by decide)
    have e : wmost = 999999 + 1 := rfl
    rw [e]
    unfold WAll wloop
    rw [hs]
    exact ⟨⟨hp, fun _ => a, fun z => by cases z⟩, b⟩
  unfold k_law_rounds m_law_rounds k_law_rounds_17 m_law_rounds_17
  obtain ⟨c, d, _⟩ := loop_fold (step := m_law_rounds_1) (io := fun y => y) (k := m_law_rounds_16 R) (P := k_law_rounds_1) (Q := k_law_rounds_16 R) putT (Kd K) (xs := K) (s := ([] : Th)) Kd.nil (fun t x hx ht => by
    have := ht.len
    exact ⟨smallL (by omega), rfl, ht.put hx⟩) (fun _ => main.1)
  exact ⟨c, d.trans main.2⟩
end Lw

namespace Lw
open PySem PySem.Spec L2 Vs TL
abbrev Gd := List Rl × List (Str × Str) × List ((Str × Str) × Bool) × List (Str × List Rl)
theorem ground_ok {R : List Rl} {P : List (Str × Str)} (h1 : R.length ≤ 100) (h2 : P.length ≤ 100) : k_Ground___init__ R P ∧ mi_Ground___init__ R P = (R, P, P.foldl (fun d x => puts d x true) [], R.foldl (fun d x => apps d x.2.2.1 x) []) := by
  unfold k_Ground___init__ mi_Ground___init__ k_Ground___init___8 m_Ground___init___8 k_Ground___init___7 m_Ground___init___7 k_Ground___init___6 m_Ground___init___6
  have two : ∀ st : List ((Str × Str) × Bool), k_Ground___init___5 R R P st ∧ m_Ground___init___5 R R P st = (R, P, st, R.foldl (fun d x => apps d x.2.2.1 x) []) := by
    intro st
    unfold k_Ground___init___5 m_Ground___init___5 k_Ground___init___4 m_Ground___init___4
    obtain ⟨a, b, _⟩ := loop_foldi (step := m_Ground___init___2) (io := fun y : Empty => (y.elim : Gd)) (k := m_Ground___init___3 R P st) (P := k_Ground___init___2) (Q := fun _ => True) (fun d (x : Rl) => apps d x.2.2.1 x) (fun i (d : List (Str × List Rl)) => d.length ≤ i ∧ ∀ k, ((gets d k).getD []).length ≤ i) (xs := R) (i0 := 0) (s := []) ⟨Nat.zero_le _, fun k => Nat.zero_le _⟩ (fun i d x hx hi hd => by
      refine ⟨⟨smallL (by omega), smallL (by have := hd.2 x.2.2.1; omega)⟩, rfl, ?_, fun k => ?_⟩
      · have := puts_len x.2.2.1 ((gets d x.2.2.1).getD [] ++ [x]) d
        show (puts d x.2.2.1 ((gets d x.2.2.1).getD [] ++ [x])).length ≤ i + 1
        omega
      · by_cases e : k = x.2.2.1
        · subst e
          rw [gets_apps_same, List.length_append]
          have := hd.2 x.2.2.1
          show _ + 1 ≤ i + 1
          omega
        · rw [gets_apps_ne _ _ e]
          have := hd.2 k
          omega) (fun _ => trivial)
    exact ⟨a, b⟩
  obtain ⟨a, b, _⟩ := loop_foldi (step := m_Ground___init___1) (io := fun y : Empty => (y.elim : Gd)) (k := m_Ground___init___5 R R P) (P := k_Ground___init___1) (Q := k_Ground___init___5 R R P) (fun d (x : Str × Str) => puts d x true) (fun i (d : List ((Str × Str) × Bool)) => d.length ≤ i) (xs := P) (i0 := 0) (s := []) (Nat.zero_le _) (fun i d x hx hi hd => by
    refine ⟨smallL (by omega), rfl, ?_⟩
    have := puts_len x true d
    show (puts d x true).length ≤ i + 1
    omega) (fun _ => (two _).1)
  refine ⟨a, ?_⟩
  rw [b, (two _).2]
/-- what the rounds give -/
abbrev fin (rs : List Ru) : Rk := (sureGo rs 63 1 ([], [])).2
theorem fin_kd (rs : List Ru) : Kd (rs.map (·.2.1)) (fin rs) := (sureGo_kd (U := rs.map (·.2.1)) (V := rs.map (·.2.1)) (fun a ha => ⟨List.mem_map.mpr ⟨a, ha, rfl⟩, List.mem_map.mpr ⟨a, ha, rfl⟩⟩) 63 1 ⟨Kd.nil, Kd.nil⟩).r
theorem fin_len (rs : List Ru) : (fin rs).length ≤ rs.length := by
  have := (fin_kd rs).len
  rw [List.length_map] at this
  exact this
theorem fin_rev (rs : List Ru) : sortK (fin rs.reverse) = sortK (fin rs) := by
  refine sortK_perm (perm_of_gets (fin_kd _).nd (fin_kd _).nd fun k => ?_)
  exact ((sureGo_rev rs 63 1 (s := (([] : Th), ([] : Rk))) (u := (([] : Th), ([] : Rk))) ⟨fun _ => rfl, fun _ => rfl⟩).2 k).symm
theorem fin_der {rs : List Ru} (h : rs.length ≤ 63) (q : Str) : q ∈ sortK (fin rs) ↔ Der rs q := by
  rw [mem_sortK]
  exact sureGo_der 63 1 (Nat.le_trans (waits_le _ _) h) (fun q h => by cases h) (fun _ => rfl) q
theorem rows_len (ns : List Int) (st : Int) : (m_law_rows ns st).length = (cut ns (some st) (some (63 : Int))).length := by
  unfold m_law_rows m_law_rows_4 m_law_rows_3 m_law_rows_2 m_law_rows_1
  generalize cut ns (some st) (some (63 : Int)) = C
  cases decide ((1 : Int) < m_law_cell_at ns 1 % 4) with
  | true => show (List.map _ C).length = _; rw [List.length_map]
  | false => show (List.map _ (enum C)).length = _; unfold enum; rw [List.length_map, List.length_mapIdx]

theorem loopAll_inv {A S T : Type} {P : S → A → Prop} {Q : S → Prop} {step : S → A → Step S T} (Inv : Nat → S → Prop) (hq : ∀ i s, Inv i s → Q s) : ∀ {xs : List A} {i0 : Nat} {s : S}, Inv i0 s → (∀ i x s, x ∈ xs → i < i0 + xs.length → Inv i s → P s x ∧ ∀ s', (step s x = .nx s' ∨ step s x = .ct s' ∨ step s x = .bk s') → Inv (i + 1) s') → LoopAll P Q step xs s
  | [], i0, s, h, _ => hq i0 s h
  | x :: xs, i0, s, h, hs => by
    obtain ⟨a, b⟩ := hs i0 x s (by simp) (by rw [List.length_cons]; omega) h
    refine ⟨a, ?_⟩
    have go : ∀ s', Inv (i0 + 1) s' → LoopAll P Q step xs s' := fun s' h' => loopAll_inv Inv hq h' fun i y t hy hi ht => hs i y t (List.mem_cons_of_mem _ hy) (by rw [List.length_cons]; omega) ht
    cases e : step s x with
    | nx s' => exact go s' (b s' (.inl e))
    | ct s' => exact go s' (b s' (.inr (.inl e)))
    | bk s' => exact hq _ s' (b s' (.inr (.inr e)))
    | fin y => trivial
/-- what a ground's heads tell -/
theorem ruling_eq {R : List Rl} {g : Gd} (hg : g.2.2.2 = R.foldl (fun d x => apps d x.2.2.1 x) []) (q : Str) : m_d_Ground_ruling (0, g) q = R.filter fun x => decide (x.2.2.1 = q) := by
  show (gets g.2.2.2 q).getD [] = _
  rw [hg, gets_heads (fun x : Rl => x.2.2.1) q R []]
  rfl
theorem any_ruling (R : List Rl) (t : Th) (q : Str) : (List.any (List.map (fun v_item : Rl => ((m_d_Rule_is_sure v_item) && (m_rests_on v_item t))) (R.filter fun x => decide (x.2.2.1 = q))) id) = ((R.map vr).any fun a => a.1 && (decide (a.2.1 = q) && a.2.2.all fun p => hasK t p)) := by
  induction R with
  | nil => rfl
  | cons x R ih =>
    rw [List.map_cons, List.any_cons, ← ih, List.filter_cons]
    cases e : decide (x.2.2.1 = q) with
    | true =>
      rw [if_pos rfl, List.map_cons, List.any_cons]
      show ((m_d_Rule_is_sure x && m_rests_on x t) || _) = ((m_d_Rule_is_sure x && (decide (x.2.2.1 = q) && _)) || _)
      rw [e, rests_eq]
      rfl
    | false =>
      rw [if_neg (by decide)]
      show _ = ((m_d_Rule_is_sure x && (decide (x.2.2.1 = q) && _)) || _)
      rw [e]
      simp
theorem prog_ok {R : List Rl} {g : Gd} (h1 : g.1 = R) (h2 : g.2.2.2 = R.foldl (fun d x => apps d x.2.2.1 x) []) (hl : R.length ≤ 63) {l : List Str} (hll : l.length ≤ 200) : k_is_sure_set (0, g) l ∧ (m_is_sure_set (0, g) l = true ↔ SureSet (R.map vr) l) := by
  unfold k_is_sure_set m_is_sure_set k_is_sure_set_3 m_is_sure_set_3
  have hr : ∀ q, (m_d_Ground_ruling (0, g) q).length ≤ 63 := fun q => by
    rw [ruling_eq h2]
    exact Nat.le_trans (List.length_filter_le _ _) hl
  refine ⟨loopAll_inv (fun i (t : Th) => t.length ≤ i) (fun i t h => ?_) (i0 := 0) (Nat.zero_le _) (fun i x t hx hi ht => ⟨fun _ => ⟨smallL (by have := hr x; omega), fun _ => smallL (by omega)⟩, fun s' hs => ?_⟩), ?_⟩
  · show k_fresh_heads g.1 t
    rw [h1]
    exact (fresh_ok hl).1
  · unfold m_is_sure_set_1 at hs
    have := puts_len x true t
    generalize (!(List.any (List.map (fun v_item : Rl => ((m_d_Rule_is_sure v_item) && (m_rests_on v_item t))) (m_d_Ground_ruling (0, g) x)) id)) = b at hs
    cases e1 : hasK t x <;> cases b <;> rw [e1] at hs
    · rcases hs with hs | hs | hs <;> cases hs
      omega
    · rcases hs with hs | hs | hs <;> cases hs
    · rcases hs with hs | hs | hs <;> cases hs
    · rcases hs with hs | hs | hs <;> cases hs
  · have w := sure_walk (A := Unit) (T := Unit) (rs := R.map vr) (step := m_is_sure_set_1 (0, g)) (k := m_is_sure_set_2 (0, g)) (fun t q => by
      unfold m_is_sure_set_1
      rw [ruling_eq h2, any_ruling]
      rfl) (fun t => by
      unfold m_is_sure_set_2
      show (m_fresh_heads g.1 t == []) = _
      rw [h1, (fresh_ok hl).2, uniq_nil]) l [] [] (fun q => rfl) List.nodup_nil (fun q h => nomatch h)
    exact w
theorem ways_eq (R : List Rw0) (t : Th) (q : Str) : ((lcF (fun v_item_4 : Rw0 => ((lcF (fun v_item_6 : Str => (!hasK t v_item_6)) (fun v_item_6 : Str => v_item_6) v_item_4.2.2.2) == [])) (fun v_item_4 : Rw0 => v_item_4) (lcF (fun v_item : Rw0 => ((v_item.2.2.1 == q) && (List.elem v_item.1 [(Str.ofString "fact"), (Str.ofString "sure")]))) (fun v_item : Rw0 => v_item) R)) == []) = !((R.map vw).any fun a => a.1 && (decide (a.2.1 = q) && a.2.2.all fun p => hasK t p)) := by
  rw [lcF_filter, lcF_filter]
  induction R with
  | nil => rfl
  | cons x R ih =>
    rw [List.map_cons, List.any_cons, List.filter_cons]
    have eq : (x.2.2.1 == q) = decide (x.2.2.1 = q) := rfl
    have va : (vw x).1 = List.elem x.1 [(Str.ofString "fact"), (Str.ofString "sure")] := rfl
    show _ = !(((vw x).1 && (decide (x.2.2.1 = q) && (x.2.2.2.all fun p => hasK t p))) || _)
    rw [va, eq]
    cases e1 : decide (x.2.2.1 = q) <;> cases e2 : List.elem x.1 [(Str.ofString "fact"), (Str.ofString "sure")] <;> simp only [Bool.and_true, Bool.and_false, Bool.false_and, Bool.true_and, Bool.false_or, if_true, Bool.false_eq_true, if_false]
    · exact ih
    · exact ih
    · exact ih
    · rw [List.filter_cons, all_nil]
      cases e3 : x.2.2.2.all fun p => hasK t p
      · rw [if_neg (by decide), Bool.false_or]; exact ih
      · rw [if_pos rfl]; rfl
theorem good_walk {rs : List Ru} {step : Th → Str → Step Th Bool} {k : Th → Bool} (hstep : ∀ t q, step t q = cond (!(rs.any fun a => a.1 && (decide (a.2.1 = q) && a.2.2.all fun p => hasK t p))) (.fin false) (.nx (putT t q))) (hk : ∀ t, k t = true) : ∀ (l acc : List Str) (t : Th), (∀ q, hasK t q = decide (q ∈ acc)) → loop step (fun y => y) k l t = suppL rs acc l
  | [], acc, t, ht => hk t
  | x :: l, acc, t, ht => by
    unfold loop suppL
    have er : (fun a : Ru => a.1 && (decide (a.2.1 = x) && a.2.2.all fun p => hasK t p)) = fun a => a.1 && (decide (a.2.1 = x) && rstL acc a) := by
      funext a
      unfold rstL
      have : (fun p => hasK t p) = fun p => decide (p ∈ acc) := funext ht
      rw [this]
    rw [hstep, er]
    have ih := good_walk hstep hk l (acc ++ [x]) (putT t x) (fun q => by
      unfold putT
      rw [hasK_puts, ht]
      by_cases e : q = x <;> simp [e])
    cases rs.any fun a => a.1 && (decide (a.2.1 = x) && rstL acc a)
    · rfl
    · exact ih
theorem law_ok {R : List Rw0} (hl : R.length ≤ 63) (hb : ∀ r ∈ R, r.2.2.2.length ≤ 4) {l : List Str} (hll : l.length ≤ 200) : k_law_good R (fin (R.map vw)) l ∧ (m_law_good R (fin (R.map vw)) l = true ↔ SureSet (R.map vw) l) := by
  unfold k_law_good m_law_good k_law_good_4 m_law_good_4
  have w := good_walk (rs := R.map vw) (step := m_law_good_2 R) (k := m_law_good_3) (fun t q => by
    unfold m_law_good_2 m_law_good_1
    rw [ways_eq]
    rfl) (fun t => rfl) l [] [] (fun q => rfl)
  rw [w]
  refine ⟨⟨smallL (by omega), fun _ => loopAll_inv (fun i (t : Th) => t.length ≤ i) (fun _ _ _ => trivial) (i0 := 0) (Nat.zero_le _) (fun i x t hx hi ht => ⟨⟨smallL (by omega), ?_, fun r hr => ?_, fun _ => smallL (by omega)⟩, fun s' hs => ?_⟩)⟩, ?_⟩
  · rw [lcF_filter]
    exact smallL (Nat.le_trans (List.length_filter_le _ _) (by omega))
  · rw [lcF_filter] at hr
    exact smallL (by have := hb r (List.mem_filter.mp hr).1; omega)
  · unfold m_law_good_2 m_law_good_1 at hs
    have := puts_len x true t
    generalize ((lcF (fun v_item_4 : Rw0 => _) (fun v_item_4 : Rw0 => v_item_4) _) == []) = b at hs
    cases b
    · rcases hs with hs | hs | hs <;> cases hs
      omega
    · rcases hs with hs | hs | hs <;> cases hs
  · have key : suppL (R.map vw) [] l = true → (sortT l = sortT (List.map Prod.fst (fin (R.map vw))) ↔ SureSet (R.map vw) l) := fun hs => sorted_sure (fin_kd _).nd (fun q => by rw [← fin_der (by rw [List.length_map]; exact hl), mem_sortK, hasK_iff]) hs
    constructor
    · intro h
      cases e : sortT l == sortT (List.map Prod.fst (fin (R.map vw))) with
      | false => rw [e] at h; cases h
      | true =>
        rw [e] at h
        exact (key h).mp (by simpa using e)
    · intro h
      have e := (key h.2.1).mpr h
      have e2 : (sortT l == sortT (List.map Prod.fst (fin (R.map vw)))) = true := by rw [e]; exact beq_self_eq_true _
      rw [e2]
      exact h.2.1
end Lw

namespace Lw
open PySem PySem.Spec L2 Vs TL
theorem cut_len {A : Type} (xs : List A) (lo hi : Option Int) : (cut xs lo hi).length ≤ xs.length := cutV_len xs lo hi
theorem listed_ok (ns : List Int) {P : List Str} (p1 : 1 ≤ P.length) {r : Rk} (hr : r.length ≤ 63) : k_law_listed ns P r ∧ (m_law_listed ns P r).length ≤ 63 := by
  unfold k_law_listed m_law_listed k_law_listed_2 m_law_listed_2
  suffices h : ∀ w c : Int, k_law_listed_1 P r w c ∧ (m_law_listed_1 P r w c).length ≤ 63 from ⟨⟨cell_ok _ (by decide), cell_ok _ (by decide), (h _ _).1⟩, (h _ _).2⟩
  intro w c
  have h31 := mod_nn c (show (0 : Int) < 31 by decide)
  have l1 : (sortT (List.map Prod.fst r)).length ≤ 63 := by
    rw [(sortT_perm _).length_eq, List.length_map]; exact hr
  have l2 : (enum (sortT (List.map Prod.fst r))).length ≤ 63 := by unfold enum; rw [List.length_mapIdx]; exact l1
  unfold k_law_listed_1 m_law_listed_1
  refine ⟨⟨fun _ => ⟨⟨by omega, by omega⟩, smallL (by rw [List.length_range]; omega), fun x _ => ?_⟩, fun _ => ⟨fun _ => ⟨smallL (by omega), fun x _ => mix_ok _ _, smallL (by rw [List.length_map]; omega), smallL (by rw [List.length_mergeSort, List.length_map]; omega)⟩, fun _ => ⟨smallL (by omega), smallL (by rw [List.length_map]; omega), smallL (by rw [List.length_mergeSort, List.length_map]; omega)⟩⟩⟩, ?_⟩
  · have hp : (0 : Int) < (P.length : Int) := by omega
    have hm := mod_nn (m_law_mix c x) hp
    exact ⟨mix_ok _ _, hp, inI_nn hm.1 hm.2⟩
  · cases (w == 1) with
    | true => show (List.map _ _).length ≤ 63; rw [List.length_map, List.length_range]; omega
    | false =>
      cases (w == 2) with
      | true => show (List.map _ _).length ≤ 63; rw [List.length_map, List.length_mergeSort, List.length_map]; exact l2
      | false => show (List.map _ _).length ≤ 63; rw [List.length_map, List.length_mergeSort, List.length_map]; exact hr
theorem spoilt_ok (ns : List Int) {P : List Str} (p1 : 1 ≤ P.length) {l : List Str} (hl : l.length ≤ 63) : k_law_spoilt ns P l ∧ (m_law_spoilt ns P l).length ≤ 200 := by
  unfold k_law_spoilt m_law_spoilt k_law_spoilt_4 m_law_spoilt_4 k_law_spoilt_3 m_law_spoilt_3 k_law_spoilt_2 m_law_spoilt_2
  suffices h : ∀ w t o : Int, k_law_spoilt_1 P l w t o ∧ (m_law_spoilt_1 P l w t o).length ≤ 200 from ⟨⟨cell_ok _ (by decide), by omega, cell_ok _ (by decide), (h _ _ _).1⟩, (h _ _ _).2⟩
  intro w t o
  have c1 := fun lo hi => cut_len l lo hi
  have hp : (0 : Int) < (P.length : Int) := by omega
  have hpm := mod_nn o hp
  have h6 := mod_nn o (show (0 : Int) < 6 by decide)
  have a1 := c1 none (some t)
  have a2 := c1 (some (t + 1)) none
  have a3 := c1 (some t) none
  have a4 := c1 (some t) (some (t + 2))
  have a5 := c1 (some (t + 2)) none
  unfold k_law_spoilt_1 m_law_spoilt_1
  constructor
  · refine ⟨fun _ => smallL (by omega), fun _ => ⟨fun _ => ⟨hp, inI_nn hpm.1 hpm.2, smallL (by show _ + 1 ≤ _; omega), smallL (by rw [List.length_append]; show _ + 1 + _ ≤ _; omega)⟩, fun _ => ⟨fun hw => ?_, fun _ => ⟨fun _ => ⟨inI_nn h6.1 (by show _ < (6 : Int); exact h6.2), smallL (by show _ + 1 ≤ _; omega), smallL (by rw [List.length_append]; show _ + 1 + _ ≤ _; omega)⟩, fun _ _ => ⟨smallL (by rw [List.length_reverse]; omega), smallL (by rw [List.length_append, List.length_reverse]; omega)⟩⟩⟩⟩⟩
    have hn : l ≠ [] := by
      intro e
      rw [e] at hw
      simp at hw
    have hq : 0 < l.length := List.length_pos_iff.mpr hn
    have hq' : (0 : Int) < (l.length : Int) := by omega
    have hm := mod_nn o hq'
    exact ⟨hq', inI_nn hm.1 hm.2, smallL (by show _ + 1 ≤ _; omega), smallL (by rw [List.length_append]; show _ + 1 + _ ≤ _; omega)⟩
  · cases (w == 1) with
    | true => show List.length (_ ++ _) ≤ 200; rw [List.length_append]; omega
    | false =>
      cases (w == 2) with
      | true => show List.length ((_ ++ [_]) ++ _) ≤ 200; rw [List.length_append, List.length_append]; show _ + 1 + _ ≤ _; omega
      | false =>
        cases ((w == 3) && (!(l == []))) with
        | true => show List.length ((_ ++ [_]) ++ _) ≤ 200; rw [List.length_append, List.length_append]; show _ + 1 + _ ≤ _; omega
        | false =>
          cases (w == 5) with
          | true => show List.length ((_ ++ [_]) ++ _) ≤ 200; rw [List.length_append, List.length_append]; show _ + 1 + _ ≤ _; omega
          | false =>
            cases (w == 4) with
            | true => show List.length ((_ ++ List.reverse _) ++ _) ≤ 200; rw [List.length_append, List.length_append, List.length_reverse]; omega
            | false => show l.length ≤ 200; omega
theorem end_true (ns : List Int) (hn : ns.length ≤ 63) : r_law [.scr (ns.map Dt.int)] (.inl (.fz (.bl true))) := by
  suffices h : k_law ns ∧ m_law ns = true by
    refine ⟨ns, h.1, rfl, ?_⟩
    rw [h.2]
  unfold k_law m_law
  obtain ⟨r1, r2, r3⟩ := rows_ok hn 6
  suffices h : k_law_8 ns (m_law_rows ns 6) ∧ m_law_8 ns (m_law_rows ns 6) = true from ⟨⟨r1, h.1⟩, h.2⟩
  generalize m_law_rows ns 6 = R at r2 r3
  have hb : ∀ r ∈ R, r.2.2.2.length ≤ 4 := fun r hr => (r3 r hr).le
  have hl : (List.map m_law_made R).length ≤ 63 := by rw [List.length_map]; exact r2
  have hv : (List.map m_law_made R).map vr = R.map vw := by
    rw [List.map_map]
    exact List.map_congr_left fun r hr => made_view (r3 r hr)
  obtain ⟨p1, p2, p3⟩ := pool_ok (m_law_cell_at ns 0)
  unfold k_law_8 m_law_8
  suffices h : k_law_7 ns R (m_law_pool (m_law_cell_at ns 0)) ∧ m_law_7 ns R (m_law_pool (m_law_cell_at ns 0)) = true from ⟨⟨cell_ok _ (by decide), p1, h.1⟩, h.2⟩
  generalize m_law_pool (m_law_cell_at ns 0) = P at p2 p3
  obtain ⟨d1, d2⟩ := rounds_ok r2 hb (K := []) (by decide)
  have d2 : m_law_rounds R [] = fin (R.map vw) := d2
  unfold k_law_7 m_law_7
  rw [d2]
  have fl : (fin (R.map vw)).length ≤ 63 := by
    have := fin_len (R.map vw); rw [List.length_map] at this; omega
  obtain ⟨g1, g2⟩ := ground_ok (R := List.map m_law_made R) (P := []) (by omega) (by decide)
  obtain ⟨s1, s2⟩ := listed_ok ns p2 fl
  unfold k_law_6 m_law_6 k_law_5 m_law_5
  suffices h : ∀ l : List Str, l.length ≤ 63 → k_law_4 ns R P (fin (R.map vw)) (0, mi_Ground___init__ (List.map m_law_made R) []) l ∧ m_law_4 ns R P (fin (R.map vw)) (0, mi_Ground___init__ (List.map m_law_made R) []) l = true by
    obtain ⟨x, y⟩ := h _ s2
    exact ⟨⟨d1, smallL (by omega), g1, s1, x⟩, y⟩
  intro l ll
  obtain ⟨t1, t2⟩ := spoilt_ok ns p2 ll
  unfold k_law_4 m_law_4
  have one : ∀ l' : List Str, l'.length ≤ 200 → k_law_2 R (fin (R.map vw)) (0, mi_Ground___init__ (List.map m_law_made R) []) () l' ∧ m_law_2 R (fin (R.map vw)) (0, mi_Ground___init__ (List.map m_law_made R) []) () l' = .nx () := by
    intro l' h'
    obtain ⟨a1, a2⟩ := prog_ok (R := List.map m_law_made R) (g := mi_Ground___init__ (List.map m_law_made R) []) (by rw [g2]) (by rw [g2]) hl (l := l') h'
    obtain ⟨b1, b2⟩ := law_ok r2 hb (l := l') h'
    rw [hv] at a2
    have e : m_is_sure_set (0, mi_Ground___init__ (List.map m_law_made R) []) l' = m_law_good R (fin (R.map vw)) l' := by
      rw [Bool.eq_iff_iff, a2, b2]
    unfold k_law_2 m_law_2 k_law_1 m_law_1
    rw [e]
    refine ⟨⟨a1, b1⟩, ?_⟩
    have e1 : (m_law_good R (fin (R.map vw)) l' == m_law_good R (fin (R.map vw)) l') = true := beq_self_eq_true _
    have e2 : (l' == l') = true := beq_self_eq_true _
    rw [e1, e2]; rfl
  obtain ⟨x1, y1⟩ := one l (by omega)
  obtain ⟨x2, y2⟩ := one _ t2
  refine ⟨⟨t1, ?_⟩, ?_⟩
  · refine ⟨x1, ?_⟩
    rw [y1]
    refine ⟨x2, ?_⟩
    rw [y2]
    trivial
  · unfold loop
    rw [y1]
    show loop _ _ _ [_] () = true
    unfold loop
    rw [y2]
    rfl
end Lw

set_option maxHeartbeats 0
namespace Lw
open PySem PySem.Spec L2 Vs
/-! the head -/
def d_law_cell_at : He.DefD := ⟨("_law_cell_at", none), "_law_cell_at", "_law_cell_at", defArgs s_law_cell_at, defBody s_law_cell_at, defScope s_law_cell_at, [], []⟩
def d_law_word : He.DefD := ⟨("_law_word", none), "_law_word", "_law_word", defArgs s_law_word, defBody s_law_word, defScope s_law_word, [], []⟩
def d_law_pool : He.DefD := ⟨("_law_pool", none), "_law_pool", "_law_pool", defArgs s_law_pool, defBody s_law_pool, defScope s_law_pool, [], []⟩
def d_law_labels : He.DefD := ⟨("_law_labels", none), "_law_labels", "_law_labels", defArgs s_law_labels, defBody s_law_labels, defScope s_law_labels, [], []⟩
def d_law_row_by_digits : He.DefD := ⟨("_law_row_by_digits", none), "_law_row_by_digits", "_law_row_by_digits", defArgs s_law_row_by_digits, defBody s_law_row_by_digits, defScope s_law_row_by_digits, [], []⟩
def d_law_mix : He.DefD := ⟨("_law_mix", none), "_law_mix", "_law_mix", defArgs s_law_mix, defBody s_law_mix, defScope s_law_mix, [], []⟩
def d_law_row : He.DefD := ⟨("_law_row", none), "_law_row", "_law_row", defArgs s_law_row, defBody s_law_row, defScope s_law_row, [], []⟩
def d_law_rows : He.DefD := ⟨("_law_rows", none), "_law_rows", "_law_rows", defArgs s_law_rows, defBody s_law_rows, defScope s_law_rows, [], []⟩
def d_law_rounds : He.DefD := ⟨("_law_rounds", none), "_law_rounds", "_law_rounds", defArgs s_law_rounds, defBody s_law_rounds, defScope s_law_rounds, [], []⟩
def d_Rule___init___t : He.DefD := ⟨("Rule", some "__init__"), "__init__", "Rule.__init__", defArgs s_Rule___init___t, defBody s_Rule___init___t, defScope s_Rule___init___t, [], []⟩
def d_Fact___init__ : He.DefD := ⟨("Fact", some "__init__"), "__init__", "Fact.__init__", defArgs s_Fact___init__, defBody s_Fact___init__, defScope s_Fact___init__, [], []⟩
def d_law_made : He.DefD := ⟨("_law_made", none), "_law_made", "_law_made", defArgs s_law_made, defBody s_law_made, defScope s_law_made, [], []⟩
def d_Ground___init__ : He.DefD := ⟨("Ground", some "__init__"), "__init__", "Ground.__init__", defArgs s_Ground___init__, defBody s_Ground___init__, defScope s_Ground___init__, [], []⟩
def d_law_listed : He.DefD := ⟨("_law_listed", none), "_law_listed", "_law_listed", defArgs s_law_listed, defBody s_law_listed, defScope s_law_listed, [], []⟩
def d_law_spoilt : He.DefD := ⟨("_law_spoilt", none), "_law_spoilt", "_law_spoilt", defArgs s_law_spoilt, defBody s_law_spoilt, defScope s_law_spoilt, [], []⟩
def d_Ground_ruling : He.DefD := ⟨("Ground", some "ruling"), "ruling", "Ground.ruling", defArgs s_Ground_ruling, defBody s_Ground_ruling, defScope s_Ground_ruling, [], []⟩
def d_Fact_is_sure : He.DefD := ⟨("Fact", some "is_sure"), "is_sure", "Fact.is_sure", defArgs s_Fact_is_sure, defBody s_Fact_is_sure, defScope s_Fact_is_sure, [], []⟩
def d_Sure_is_sure : He.DefD := ⟨("Sure", some "is_sure"), "is_sure", "Sure.is_sure", defArgs s_Sure_is_sure, defBody s_Sure_is_sure, defScope s_Sure_is_sure, [], []⟩
def d_Rule_is_sure : He.DefD := ⟨("Rule", some "is_sure"), "is_sure", "Rule.is_sure", defArgs s_Rule_is_sure, defBody s_Rule_is_sure, defScope s_Rule_is_sure, [], []⟩
def d_rests_on : He.DefD := ⟨("rests_on", none), "rests_on", "rests_on", defArgs s_rests_on, defBody s_rests_on, defScope s_rests_on, [], []⟩
def d_Ground_rules : He.DefD := ⟨("Ground", some "rules"), "rules", "Ground.rules", defArgs s_Ground_rules, defBody s_Ground_rules, defScope s_Ground_rules, [], []⟩
def d_fresh_heads : He.DefD := ⟨("fresh_heads", none), "fresh_heads", "fresh_heads", defArgs s_fresh_heads, defBody s_fresh_heads, defScope s_fresh_heads, [], []⟩
def d_is_sure_set : He.DefD := ⟨("is_sure_set", none), "is_sure_set", "is_sure_set", defArgs s_is_sure_set, defBody s_is_sure_set, defScope s_is_sure_set, [], []⟩
def d_law_good : He.DefD := ⟨("_law_good", none), "_law_good", "_law_good", defArgs s_law_good, defBody s_law_good, defScope s_law_good, [], []⟩
def d_law : He.DefD := ⟨("law", none), "law", "law", defArgs s_law, defBody s_law, defScope s_law, [], []⟩
def fn : List He.DefD := [d_law_cell_at, d_law_word, d_law_pool, d_law_labels, d_law_row_by_digits, d_law_mix, d_law_row, d_law_rows, d_law_rounds, d_Rule___init___t, d_Fact___init__, d_law_made, d_Ground___init__, d_law_listed, d_law_spoilt, d_Ground_ruling, d_Fact_is_sure, d_Sure_is_sure, d_Rule_is_sure, d_rests_on, d_Ground_rules, d_fresh_heads, d_is_sure_set, d_law_good, d_law]
def fa : List He.Fa := [.glo "_law_cell_at", .glo "_law_word", .glo "_law_pool", .glo "_law_labels", .glo "_law_row_by_digits", .glo "_law_mix", .glo "_law_row", .glo "_law_rows", .glo "_law_rounds", .glo "_law_made", .glo "_law_listed", .glo "_law_spoilt", .glo "rests_on", .glo "fresh_heads", .glo "is_sure_set", .glo "_law_good", .glo "law", .free "any", .free "bool", .free "enumerate", .free "isinstance", .free "len", .free "list", .free "range", .free "reversed", .free "sorted", .free "tuple", .glo "Block", .glo "Fact", .glo "Ground", .glo "Most", .glo "Rule", .glo "Sure", .mkr "Block", .mkr "Fact", .mkr "Ground", .mkr "Most", .mkr "Sure", .noat "Ground" "every", .noat "Ground" "heads", .noat "Ground" "told", .noat "Ground" "wins", .noat "Fact" "body", .noat "Sure" "body", .noat "Most" "body", .noat "Block" "body", .noat "Fact" "head", .noat "Sure" "head", .noat "Most" "head", .noat "Block" "head", .noat "Fact" "label", .noat "Sure" "label", .noat "Most" "label", .noat "Block" "label", .meth "Ground" "ruling", .meth "Fact" "is_sure", .meth "Sure" "is_sure", .meth "Most" "is_sure", .meth "Block" "is_sure", .meth "Ground" "rules"]
def ya : List Ya := [.cl "Ground", .cl "Fact", .cl "Sure", .cl "Most", .cl "Block", .sup "Rule" "__init__", .nolam, .same "Most" "Rule" "__init__", .same "Block" "Rule" "__init__", .same "Sure" "Rule" "__init__", .same "Most" "Rule" "is_sure", .same "Block" "Rule" "is_sure"]
abbrev Rw : PySem.W.OpenRow := PySem.W.OpenLaw.row PySem.Challenge.rw_mostwise_k33_whole_sure_sets
abbrev hkk : PySem.W.Hook := hookY 6 fa fn ya
def ob (s : PySem.W.SharedT) : He.AlD := obsY 6 fa fn ya (HandSHeadRun.getT s)
theorem ob_eq (s : PySem.W.SharedT) : ob s = hkk.obs s.abs := obsY_eq (HandSHeadRun.getT_eq s)
def nm0 : List Str := ["_wall", "rests_on", "fresh_heads", "is_sure_set", "opposite", "Rule", "Fact", "Sure", "Most", "Block", "Ground", "_law_cell_at", "_law_mix", "_law_word", "_law_pool", "_law_row", "_law_made", "_law_labels", "_law_row_by_digits", "_law_rows"]
def nm1 : List Str := ["_law_rounds", "_law_listed", "_law_spoilt", "_law_good"]
def nms : List Str := nm0 ++ nm1
theorem run (w : World) : HandSHeadRun.RunEq Rw (PySem.W.view Rw.prog [29]) hkk ob 20000 nms w := by
  intro os
  kernel_rfl
theorem facts {P : Program} {w : World} {K : PySem.W.Frag} {h : Heap} {mg : Str → Option Value} {f : Addr} (X : K.In h) (G : h.Ns mainGlobals mg) (hfa : mg ("law" : Str) = some (.ref f)) (c : SaysY fa fn ya K) :
    ∃ fd : FuncData, (∀ (s : Shared) (v : Value), BindsTo s fd ⟨[v], []⟩ [("_law_script", v)]) ∧ ∀ base : Heap, K.In base → base.Ns mainGlobals mg → FnOk P w K mg base (L2.CX P w) 6 f fd ["_law_script"] (spR K 1 r_law) := by
  obtain ⟨fd0, F0⟩ := c.1.def_ 0 (d := d_law_cell_at) rfl
  obtain ⟨fd1, F1⟩ := c.1.def_ 1 (d := d_law_word) rfl
  obtain ⟨fd2, F2⟩ := c.1.def_ 2 (d := d_law_pool) rfl
  obtain ⟨fd3, F3⟩ := c.1.def_ 3 (d := d_law_labels) rfl
  obtain ⟨fd4, F4⟩ := c.1.def_ 4 (d := d_law_row_by_digits) rfl
  obtain ⟨fd5, F5⟩ := c.1.def_ 5 (d := d_law_mix) rfl
  obtain ⟨fd6, F6⟩ := c.1.def_ 6 (d := d_law_row) rfl
  obtain ⟨fd7, F7⟩ := c.1.def_ 7 (d := d_law_rows) rfl
  obtain ⟨fd8, F8⟩ := c.1.def_ 8 (d := d_law_rounds) rfl
  obtain ⟨fd9, F9⟩ := c.1.def_ 9 (d := d_Rule___init___t) rfl
  obtain ⟨fd10, F10⟩ := c.1.def_ 10 (d := d_Fact___init__) rfl
  obtain ⟨fd11, F11⟩ := c.1.def_ 11 (d := d_law_made) rfl
  obtain ⟨fd12, F12⟩ := c.1.def_ 12 (d := d_Ground___init__) rfl
  obtain ⟨fd13, F13⟩ := c.1.def_ 13 (d := d_law_listed) rfl
  obtain ⟨fd14, F14⟩ := c.1.def_ 14 (d := d_law_spoilt) rfl
  obtain ⟨fd15, F15⟩ := c.1.def_ 15 (d := d_Ground_ruling) rfl
  obtain ⟨fd16, F16⟩ := c.1.def_ 16 (d := d_Fact_is_sure) rfl
  obtain ⟨fd17, F17⟩ := c.1.def_ 17 (d := d_Sure_is_sure) rfl
  obtain ⟨fd18, F18⟩ := c.1.def_ 18 (d := d_Rule_is_sure) rfl
  obtain ⟨fd19, F19⟩ := c.1.def_ 19 (d := d_rests_on) rfl
  obtain ⟨fd20, F20⟩ := c.1.def_ 20 (d := d_Ground_rules) rfl
  obtain ⟨fd21, F21⟩ := c.1.def_ 21 (d := d_fresh_heads) rfl
  obtain ⟨fd22, F22⟩ := c.1.def_ 22 (d := d_is_sure_set) rfl
  obtain ⟨fd23, F23⟩ := c.1.def_ 23 (d := d_law_good) rfl
  obtain ⟨fd24, F24⟩ := c.1.def_ 24 (d := d_law) rfl
  have e := hfa.symm.trans (He.glo_ok X G (c.1.fact 16 (f := .glo "law") rfl))
  cases e
  have T : Txt K mg := ⟨He.free_ok X G (c.1.fact 17 (f := .free "any") rfl), He.free_ok X G (c.1.fact 18 (f := .free "bool") rfl), He.free_ok X G (c.1.fact 19 (f := .free "enumerate") rfl), He.free_ok X G (c.1.fact 20 (f := .free "isinstance") rfl), He.free_ok X G (c.1.fact 21 (f := .free "len") rfl), He.free_ok X G (c.1.fact 22 (f := .free "list") rfl), He.free_ok X G (c.1.fact 23 (f := .free "range") rfl), He.free_ok X G (c.1.fact 24 (f := .free "reversed") rfl), He.free_ok X G (c.1.fact 25 (f := .free "sorted") rfl), He.free_ok X G (c.1.fact 26 (f := .free "tuple") rfl), (by intro k; rcases k with k; exact clB_ok (c.ya 0 (y := .cl "Ground") rfl)), (by intro k; rcases k with _ | _ | _ | k; exact clB_ok (c.ya 1 (y := .cl "Fact") rfl); exact clB_ok (c.ya 2 (y := .cl "Sure") rfl); exact clB_ok (c.ya 3 (y := .cl "Most") rfl); exact clB_ok (c.ya 4 (y := .cl "Block") rfl)), He.glo_ok X G (c.1.fact 27 (f := .glo "Block") rfl), He.glo_ok X G (c.1.fact 28 (f := .glo "Fact") rfl), He.glo_ok X G (c.1.fact 29 (f := .glo "Ground") rfl), He.glo_ok X G (c.1.fact 30 (f := .glo "Most") rfl), He.glo_ok X G (c.1.fact 31 (f := .glo "Rule") rfl), He.glo_ok X G (c.1.fact 32 (f := .glo "Sure") rfl), He.mkr_ok (c.1.fact 33 (f := .mkr "Block") rfl), He.mkr_ok (c.1.fact 34 (f := .mkr "Fact") rfl), He.mkr_ok (c.1.fact 35 (f := .mkr "Ground") rfl), He.mkr_ok (c.1.fact 36 (f := .mkr "Most") rfl), He.mkr_ok (c.1.fact 37 (f := .mkr "Sure") rfl), (by intro k; rcases k with k; exact He.noat_ok (c.1.fact 38 (f := .noat "Ground" "every") rfl)), (by intro k; rcases k with k; exact He.noat_ok (c.1.fact 39 (f := .noat "Ground" "heads") rfl)), (by intro k; rcases k with k; exact He.noat_ok (c.1.fact 40 (f := .noat "Ground" "told") rfl)), (by intro k; rcases k with k; exact He.noat_ok (c.1.fact 41 (f := .noat "Ground" "wins") rfl)), (by intro k; rcases k with _ | _ | _ | k; exact He.noat_ok (c.1.fact 42 (f := .noat "Fact" "body") rfl); exact He.noat_ok (c.1.fact 43 (f := .noat "Sure" "body") rfl); exact He.noat_ok (c.1.fact 44 (f := .noat "Most" "body") rfl); exact He.noat_ok (c.1.fact 45 (f := .noat "Block" "body") rfl)), (by intro k; rcases k with _ | _ | _ | k; exact He.noat_ok (c.1.fact 46 (f := .noat "Fact" "head") rfl); exact He.noat_ok (c.1.fact 47 (f := .noat "Sure" "head") rfl); exact He.noat_ok (c.1.fact 48 (f := .noat "Most" "head") rfl); exact He.noat_ok (c.1.fact 49 (f := .noat "Block" "head") rfl)), (by intro k; rcases k with _ | _ | _ | k; exact He.noat_ok (c.1.fact 50 (f := .noat "Fact" "label") rfl); exact He.noat_ok (c.1.fact 51 (f := .noat "Sure" "label") rfl); exact He.noat_ok (c.1.fact 52 (f := .noat "Most" "label") rfl); exact He.noat_ok (c.1.fact 53 (f := .noat "Block" "label") rfl)), supB_ok (c.ya 5 (y := .sup "Rule" "__init__") rfl)⟩
  have b := FunD.bindsA (ps := ["_law_script"]) F24 fun _ _ _ _ _ _ us hl => match us, hl with | [_], _ => rfl
  refine ⟨fd24, fun s v => b s [v] rfl, fun base _ _ => ?_⟩
  have c_law_cell_at := mk_law_cell_at (P := P) (w := w) (base := base) T  F0 (He.glo_ok X G (c.1.fact 0 (f := .glo "_law_cell_at") rfl))
  have c_law_word := mk_law_word (P := P) (w := w) (base := base) T  F1 (He.glo_ok X G (c.1.fact 1 (f := .glo "_law_word") rfl))
  have c_law_pool := mk_law_pool (P := P) (w := w) (base := base) T c_law_word F2 (He.glo_ok X G (c.1.fact 2 (f := .glo "_law_pool") rfl))
  have c_law_labels := mk_law_labels (P := P) (w := w) (base := base) T c_law_word F3 (He.glo_ok X G (c.1.fact 3 (f := .glo "_law_labels") rfl))
  have c_law_row_by_digits := mk_law_row_by_digits (P := P) (w := w) (base := base) T  F4 (He.glo_ok X G (c.1.fact 4 (f := .glo "_law_row_by_digits") rfl))
  have c_law_mix := mk_law_mix (P := P) (w := w) (base := base) T  F5 (He.glo_ok X G (c.1.fact 5 (f := .glo "_law_mix") rfl))
  have c_law_row := mk_law_row (P := P) (w := w) (base := base) T c_law_mix F6 (He.glo_ok X G (c.1.fact 6 (f := .glo "_law_row") rfl))
  have c_law_rows := mk_law_rows (P := P) (w := w) (base := base) T c_law_cell_at c_law_labels c_law_mix c_law_pool c_law_row c_law_row_by_digits F7 (He.glo_ok X G (c.1.fact 7 (f := .glo "_law_rows") rfl))
  have c_law_rounds := mk_law_rounds (P := P) (w := w) (base := base) T  F8 (He.glo_ok X G (c.1.fact 8 (f := .glo "_law_rounds") rfl))
  have c_i_Rule_Rule___init___t : CalleeBI P w K mg base "Rule" 1 4 r_Rule___init___t := mk_Rule___init___t (P := P) (w := w) (base := base) T  (C := "Rule") (fd := fd9) F9
  have c_i_Most_Rule___init___t : CalleeBI P w K mg base "Most" 1 4 r_Rule___init___t := mk_Rule___init___t (P := P) (w := w) (base := base) T  (C := "Most") (fd := fd9) (by rw [same_ok (c.ya 7 (y := .same "Most" "Rule" "__init__") rfl)]; exact F9)
  have c_i_Block_Rule___init___t : CalleeBI P w K mg base "Block" 1 4 r_Rule___init___t := mk_Rule___init___t (P := P) (w := w) (base := base) T  (C := "Block") (fd := fd9) (by rw [same_ok (c.ya 8 (y := .same "Block" "Rule" "__init__") rfl)]; exact F9)
  have c_i_Fact_Fact___init__ : CalleeBI P w K mg base "Fact" 3 2 r_Fact___init__ := mk_Fact___init__ (P := P) (w := w) (base := base) T c_i_Rule_Rule___init___t (C := "Fact") (fd := fd10) F10
  have c_i_Sure_Rule___init___l : CalleeBI P w K mg base "Sure" 1 4 r_Rule___init___l := mk_Rule___init___l (P := P) (w := w) (base := base) T  (C := "Sure") (fd := fd9) (by rw [same_ok (c.ya 9 (y := .same "Sure" "Rule" "__init__") rfl)]; exact F9)
  have c_law_made := mk_law_made (P := P) (w := w) (base := base) T c_i_Block_Rule___init___t c_i_Fact_Fact___init__ c_i_Most_Rule___init___t c_i_Sure_Rule___init___l F11 (He.glo_ok X G (c.1.fact 9 (f := .glo "_law_made") rfl))
  have c_i_Ground_Ground___init__ : CalleeBI P w K mg base "Ground" 1 3 r_Ground___init__ := mk_Ground___init__ (P := P) (w := w) (base := base) T  (C := "Ground") (fd := fd12) F12
  have c_law_listed := mk_law_listed (P := P) (w := w) (base := base) T c_law_cell_at c_law_mix F13 (He.glo_ok X G (c.1.fact 10 (f := .glo "_law_listed") rfl))
  have c_law_spoilt := mk_law_spoilt (P := P) (w := w) (base := base) T c_law_cell_at F14 (He.glo_ok X G (c.1.fact 11 (f := .glo "_law_spoilt") rfl))
  have c_d_Ground_ruling : ∀ k, CalleeM P w K mg base (cn_Ground k) "ruling" 1 2 (rr_d_Ground_ruling k) := by
    intro k
    rcases k with k
    · exact (mk_Ground_ruling (P := P) (w := w) (base := base) T  F15 (He.meth_ok (c.1.fact 54 (f := .meth "Ground" "ruling") rfl))).up (by decide)
  have c_d_Rule_is_sure : ∀ k, CalleeM P w K mg base (cn_Rule k) "is_sure" 1 1 (rr_d_Rule_is_sure k) := by
    intro k
    rcases k with _ | _ | _ | k
    · exact (mk_Fact_is_sure (P := P) (w := w) (base := base) T  F16 (He.meth_ok (c.1.fact 55 (f := .meth "Fact" "is_sure") rfl))).up (by decide)
    · exact (mk_Sure_is_sure (P := P) (w := w) (base := base) T  F17 (He.meth_ok (c.1.fact 56 (f := .meth "Sure" "is_sure") rfl))).up (by decide)
    · exact (mk_Rule_is_sure (P := P) (w := w) (base := base) T  F18 (meth_as (c.ya 10 (y := .same "Most" "Rule" "is_sure") rfl) (He.meth_ok (c.1.fact 57 (f := .meth "Most" "is_sure") rfl)))).up (by decide)
    · exact (mk_Rule_is_sure (P := P) (w := w) (base := base) T  F18 (meth_as (c.ya 11 (y := .same "Block" "Rule" "is_sure") rfl) (He.meth_ok (c.1.fact 58 (f := .meth "Block" "is_sure") rfl)))).up (by decide)
  have c_rests_on := mk_rests_on (P := P) (w := w) (base := base) T  F19 (He.glo_ok X G (c.1.fact 12 (f := .glo "rests_on") rfl))
  have c_d_Ground_rules : ∀ k, CalleeM P w K mg base (cn_Ground k) "rules" 1 1 (rr_d_Ground_rules k) := by
    intro k
    rcases k with k
    · exact (mk_Ground_rules (P := P) (w := w) (base := base) T  F20 (He.meth_ok (c.1.fact 59 (f := .meth "Ground" "rules") rfl))).up (by decide)
  have c_fresh_heads := mk_fresh_heads (P := P) (w := w) (base := base) T c_d_Rule_is_sure c_rests_on F21 (He.glo_ok X G (c.1.fact 13 (f := .glo "fresh_heads") rfl))
  have c_is_sure_set := mk_is_sure_set (P := P) (w := w) (base := base) T c_d_Ground_rules c_d_Ground_ruling c_d_Rule_is_sure c_fresh_heads c_rests_on F22 (He.glo_ok X G (c.1.fact 14 (f := .glo "is_sure_set") rfl))
  have c_law_good := mk_law_good (P := P) (w := w) (base := base) T  F23 (He.glo_ok X G (c.1.fact 15 (f := .glo "_law_good") rfl))
  exact ok_law T c_i_Ground_Ground___init__ c_is_sure_set c_law_cell_at c_law_good c_law_listed c_law_made c_law_pool c_law_rounds c_law_rows c_law_spoilt F24
end Lw
open PySem PySem.W PySem.Calls PyProof.Rows
set_option maxRecDepth 100000 in
set_option maxHeartbeats 0 in
theorem PySem.Challenge.cw_mostwise_k33_whole_sure_sets_holds : PySem.Challenge.rw_mostwise_k33_whole_sure_sets.Holds := by
  w_on; o_law
  refine HandSHeadRun.head_any (r := OpenLaw.row PySem.Challenge.rw_mostwise_k33_whole_sure_sets) (q := view (OpenLaw.row PySem.Challenge.rw_mostwise_k33_whole_sure_sets).prog [29]) (H := Lw.hkk) (ob := Lw.ob) (M := 20000) (loose := Lw.nms) (d := HandSHeadRun.topDef (OpenLaw.row PySem.Challenge.rw_mostwise_k33_whole_sure_sets).prog 29) (kwd := []) Lw.ob_eq
    (by kernel_rfl) (fun s => by kernel_rfl) Lw.run (by kernel_rfl) (by kernel_rfl) (by kernel_rfl) (by rfl) (by first | assumption | decide +kernel) (by decide +kernel) ⟨rfl, rfl, rfl, rfl, rfl, by decide +kernel⟩ ?hw ?hc
  case hw => w_witness2
  case hc =>
    refine Vs.walkW (l := PySem.Challenge.rw_mostwise_k33_whole_sure_sets) (k := 6) (x := "_law_script") (r := Lw.r_law) rfl (by kernel_rfl) ⟨rfl, by decide, by decide⟩ ?F ?R
    case F =>
      intro w mg fa h Y G hmg0
      obtain ⟨K, KX, c⟩ := Y
      have hmg : mg ("law" : PySem.Str) = some (.ref fa) := by
        have e : (HandSHeadRun.topDef (OpenLaw.row PySem.Challenge.rw_mostwise_k33_whole_sure_sets).prog 29).name = ("law" : PySem.Str) := by kernel_rfl
        rw [← e]
        exact hmg0
      obtain ⟨fd, hb, hF⟩ := Lw.facts (P := (PySem.Challenge.rw_mostwise_k33_whole_sure_sets).prog) (w := w) KX G hmg c
      exact ⟨K, fd, KX, Vs.nolam_ok (Vs.SaysY.ya c 6 (y := .nolam) rfl), hb, hF⟩
    case R => exact Lw.end_true
