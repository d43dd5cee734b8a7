import PyProof.Rows.All
import Wide.All
import OpenK.AllK
import Wide.FinOn
import KE.KStateDown
import HandS.ForMost
import HandS.Exc
import HandS.TryOnly
import HandS.ExcOwn
import HandS.WordsExc
import HandS.Flow
import HandS.More
import HandS.Conv
import HandS.IsInst
import HandS.EndBits
import HandS.Defaults
import HandS.Head0
import HandS.Head1
import HandS.Head2
import HandS.HeadEnd
import HandS.HeadHook1
import HandS.HeadHook2
import HandS.Rev
import KE.KDictList
import HandS.SetKeys
import HandS.Deep
import Lean
import PySem.Challenge.RW_mostwise_k21_written_out
set_option Elab.async false
set_option linter.all false
set_option maxRecDepth 100000
/-! The value layer: what a text does, told over data trees; own work over the hand layer. -/
namespace Vs
open PySem PySem.Spec L2

/-! ### data -/
inductive Dt where
  | non | bl (b : Bool) | int (i : Int) | str (s : Str)
  | lst (xs : List Dt) | tup (xs : List Dt)
  | dic (kvs : List (Key × Dt))
  | dit (kvs : List (List Key × Dt))
  | ins (C : Str) (fs : List (Str × Dt))
  | scr (xs : List Dt)

abbrev big : Nat := 1000000
abbrev bigS : Nat := 900000
theorem big_line : big ≤ sizeLine := by rw [sizeLine_eq]; decide

/-- a text that is no longer than this layer carries, of signs that there are -/
def goodB (s : Str) : Bool := decide (s.length ≤ bigS) && s.cps.toList.all fun c => decide (c < 0x110000)
theorem good_iff {s : Str} : goodB s = true ↔ s.length ≤ bigS ∧ ∀ c ∈ s.cps.toList, c < 0x110000 := by
  unfold goodB
  rw [Bool.and_eq_true_iff, decide_eq_true_iff, List.all_eq_true]
  constructor
  · rintro ⟨h1, h2⟩
    exact ⟨h1, fun c hc => of_decide_eq_true (h2 c hc)⟩
  · rintro ⟨h1, h2⟩
    exact ⟨h1, fun c hc => decide_eq_true (h2 c hc)⟩
theorem good_len {s : Str} (h : goodB s = true) : s.length ≤ bigS := (good_iff.mp h).1
theorem bigS_big : bigS ≤ big := by decide
theorem good_line {s : Str} (h : goodB s = true) : s.length ≤ sizeLine := Nat.le_trans (good_len h) (Nat.le_trans bigS_big big_line)
theorem good_one {c : Nat} (h : c < 0x110000) : goodB ⟨#[c]⟩ = true := good_iff.mpr ⟨by show 1 ≤ bigS; decide, fun d hd => by
  have : d = c := by simpa using hd
  rw [this]; exact h⟩
theorem good_sub {s t : Str} (h : goodB s = true) (hl : t.length ≤ s.length) (hc : ∀ c ∈ t.cps.toList, c ∈ s.cps.toList) : goodB t = true :=
  good_iff.mpr ⟨Nat.le_trans hl (good_len h), fun c z => (good_iff.mp h).2 c (hc c z)⟩
theorem good_app {s t : Str} (h : goodB s = true) (h' : goodB t = true) (hl : s.length + t.length ≤ bigS) : goodB (s ++ t) = true := by
  refine good_iff.mpr ⟨?_, fun c hc => ?_⟩
  · show (s.cps ++ t.cps).size ≤ bigS
    rw [Array.size_append]; exact hl
  · have e : (s ++ t).cps.toList = s.cps.toList ++ t.cps.toList := by
      show (s.cps ++ t.cps).toList = _
      exact Array.toList_append
    rw [e, List.mem_append] at hc
    rcases hc with z | z
    · exact (good_iff.mp h).2 c z
    · exact (good_iff.mp h').2 c z
theorem good_strOk {s : Str} (h : goodB s = true) : PyData.strOk s = true := by
  unfold PyData.strOk
  rw [Array.all_eq_true']
  intro c hc
  exact decide_eq_true ((good_iff.mp h).2 c (Array.mem_def.mp hc))

/-- a good key -/
def kOk : Key → Bool
  | .inl _ => true
  | .inr s => goodB s
mutual
inductive Rep (K : PySem.W.Frag) (F : Hp) : V → Dt → Prop
  | non : Rep K F .non .non
  | bl (b : Bool) : Rep K F (.bl b) (.bl b)
  | int (i : Int) : Rep K F (.int i) (.int i)
  | str (s : Str) : goodB s = true → Rep K F (.str s) (.str s)
  | lst {a : Addr} {vs : List V} {ds : List Dt} : F a = some (.lst vs) → vs.length ≤ big → RepL K F vs ds → Rep K F (.ref a) (.lst ds)
  | tup {a : Addr} {vs : List V} {ds : List Dt} : F a = some (.tup vs) → vs.length ≤ big → RepL K F vs ds → Rep K F (.ref a) (.tup ds)
  | dic {a : Addr} {vs : List (Key × V)} {ds : List (Key × Dt)} : F a = some (.dK vs) → vs.length ≤ big → RepK K F vs ds → (vs.map (·.1)).Nodup → Rep K F (.ref a) (.dic ds)
  | dit {a : Addr} {vs : List (List Key × V)} {ds : List (List Key × Dt)} : F a = some (.dT vs) → vs.length ≤ big → RepT K F vs ds → (vs.map (·.1)).Nodup → Rep K F (.ref a) (.dit ds)
  | ins {a dx : Addr} {C : Str} {vs : List (Str × V)} {fs : List (Str × Dt)} : F a = some (.ins (He.ga K C) dx vs) → RepF K F vs fs → Rep K F (.ref a) (.ins C fs)
  | scr {a : Addr} {vs : List V} {ds : List Dt} : SqL K F a vs → vs.length ≤ big → RepL K F vs ds → Rep K F (.ref a) (.scr ds)
inductive RepL (K : PySem.W.Frag) (F : Hp) : List V → List Dt → Prop
  | nil : RepL K F [] []
  | cons {v : V} {vs : List V} {d : Dt} {ds : List Dt} : Rep K F v d → RepL K F vs ds → RepL K F (v :: vs) (d :: ds)
inductive RepK (K : PySem.W.Frag) (F : Hp) : List (Key × V) → List (Key × Dt) → Prop
  | nil : RepK K F [] []
  | cons {k : Key} {v : V} {vs : List (Key × V)} {d : Dt} {ds : List (Key × Dt)} : kOk k = true → Rep K F v d → RepK K F vs ds → RepK K F ((k, v) :: vs) ((k, d) :: ds)
inductive RepT (K : PySem.W.Frag) (F : Hp) : List (List Key × V) → List (List Key × Dt) → Prop
  | nil : RepT K F [] []
  | cons {k : List Key} {v : V} {vs : List (List Key × V)} {d : Dt} {ds : List (List Key × Dt)} : Rep K F v d → RepT K F vs ds → RepT K F ((k, v) :: vs) ((k, d) :: ds)
inductive RepF (K : PySem.W.Frag) (F : Hp) : List (Str × V) → List (Str × Dt) → Prop
  | nil : RepF K F [] []
  | cons {k : Str} {v : V} {vs : List (Str × V)} {d : Dt} {ds : List (Str × Dt)} : Rep K F v d → RepF K F vs ds → RepF K F ((k, v) :: vs) ((k, d) :: ds)
end

/-! ### heaps -/
def Ex (H H' : Hp) : Prop := ∀ a o, H a = some o → H' a = some o
theorem Ex.refl (H : Hp) : Ex H H := fun _ _ h => h
theorem Ex.trans {H H1 H2 : Hp} (a : Ex H H1) (b : Ex H1 H2) : Ex H H2 := fun x o h => b x o (a x o h)
theorem Ex.new {H : Hp} {p : Addr} {o : HO} (h : H p = none) : Ex H (upd H p o) := fun a u e => by
  rw [upd_ne (ne_of_none e h)]
  exact e
theorem Ex.upd2 {H H' : Hp} {p : Addr} {o : HO} (e : Ex H H') (h : H p = none) : Ex H (upd H' p o) := fun a u ha => by
  rw [upd_ne (ne_of_none ha h)]
  exact e a u ha
theorem Ex.rd {H H' : Hp} {a : Addr} {u : HO} (e : Ex H H') (h : Rd H a u) : Rd H' a u := by
  rcases h with h | ⟨o, h⟩
  · exact Or.inl (e a _ h)
  · exact Or.inr ⟨o, e a _ h⟩
theorem Ex.sql {K : PySem.W.Frag} {H H' : Hp} {a : Addr} {xs : List V} (e : Ex H H') (h : SqL K H a xs) : SqL K H' a xs := by
  rcases h with h | h
  · exact Or.inl (e.rd h)
  · exact Or.inr h
theorem Ex.sqt {K : PySem.W.Frag} {H H' : Hp} {a : Addr} {xs : List V} (e : Ex H H') (h : SqT K H a xs) : SqT K H' a xs := by
  rcases h with h | h
  · exact Or.inl (e.rd h)
  · exact Or.inr h
theorem Ex.free {H H' : Hp} (e : Ex H H') {l : Addr} (h : H' l = none) : H l = none := by
  cases q : H l with
  | none => rfl
  | some o =>
    rw [e l o q] at h
    cases h

mutual
theorem Rep.mono {K : PySem.W.Frag} {F F' : Hp} (e : Ex F F') : ∀ {v : V} {d : Dt}, Rep K F v d → Rep K F' v d
  | _, _, .non => .non
  | _, _, .bl b => .bl b
  | _, _, .int i => .int i
  | _, _, .str s h => .str s h
  | _, _, .lst h l r => .lst (e _ _ h) l (RepL.mono e r)
  | _, _, .tup h l r => .tup (e _ _ h) l (RepL.mono e r)
  | _, _, .scr h l r => .scr (e.sql h) l (RepL.mono e r)
  | _, _, .dic h l r n => .dic (e _ _ h) l (RepK.mono e r) n
  | _, _, .dit h l r n => .dit (e _ _ h) l (RepT.mono e r) n
  | _, _, .ins h r => .ins (e _ _ h) (RepF.mono e r)
theorem RepL.mono {K : PySem.W.Frag} {F F' : Hp} (e : Ex F F') : ∀ {v : List V} {d : List Dt}, RepL K F v d → RepL K F' v d
  | _, _, .nil => .nil
  | _, _, .cons h r => .cons (Rep.mono e h) (RepL.mono e r)
theorem RepK.mono {K : PySem.W.Frag} {F F' : Hp} (e : Ex F F') : ∀ {v : List (Key × V)} {d : List (Key × Dt)}, RepK K F v d → RepK K F' v d
  | _, _, .nil => .nil
  | _, _, .cons o h r => .cons o (Rep.mono e h) (RepK.mono e r)
theorem RepT.mono {K : PySem.W.Frag} {F F' : Hp} (e : Ex F F') : ∀ {v : List (List Key × V)} {d : List (List Key × Dt)}, RepT K F v d → RepT K F' v d
  | _, _, .nil => .nil
  | _, _, .cons h r => .cons (Rep.mono e h) (RepT.mono e r)
theorem RepF.mono {K : PySem.W.Frag} {F F' : Hp} (e : Ex F F') : ∀ {v : List (Str × V)} {d : List (Str × Dt)}, RepF K F v d → RepF K F' v d
  | _, _, .nil => .nil
  | _, _, .cons h r => .cons (Rep.mono e h) (RepF.mono e r)
end

/-- what is frozen stands; a dict may be locked -/
def Sees (H : Hp) (a : Addr) (o : HO) : Prop := H a = some o ∨ (((∃ kvs, o = .dK kvs) ∨ ∃ kvs, o = .dT kvs) ∧ ∃ ob, H a = some (.frz ob o))
def Sub (F H : Hp) : Prop := ∀ a o, F a = some o → Sees H a o
theorem Sub.rd {F H : Hp} (s : Sub F H) {a : Addr} {o : HO} (h : F a = some o) : Rd H a o := by
  rcases s a o h with q | ⟨_, ob, q⟩
  · exact .inl q
  · exact .inr ⟨ob, q⟩
theorem Sub.at {F H : Hp} (s : Sub F H) {a : Addr} {o : HO} (h : F a = some o) (n1 : ∀ kvs, o ≠ .dK kvs) (n2 : ∀ kvs, o ≠ .dT kvs) : H a = some o := by
  rcases s a o h with q | ⟨⟨k, e⟩ | ⟨k, e⟩, _⟩
  · exact q
  · exact absurd e (n1 k)
  · exact absurd e (n2 k)
theorem Sub.sql {K : PySem.W.Frag} {F H : Hp} (s : Sub F H) {a : Addr} {xs : List V} (h : SqL K F a xs) : SqL K H a xs := by
  rcases h with (h | ⟨o, h⟩) | h
  · exact .inl (.inl (s.at h (by intro k z; cases z) (by intro k z; cases z)))
  · exact .inl (.inr ⟨o, s.at h (by intro k z; cases z) (by intro k z; cases z)⟩)
  · exact .inr h
theorem Sub.sqt {K : PySem.W.Frag} {F H : Hp} (s : Sub F H) {a : Addr} {xs : List V} (h : SqT K F a xs) : SqT K H a xs := by
  rcases h with (h | ⟨o, h⟩) | h
  · exact .inl (.inl (s.at h (by intro k z; cases z) (by intro k z; cases z)))
  · exact .inl (.inr ⟨o, s.at h (by intro k z; cases z) (by intro k z; cases z)⟩)
  · exact .inr h
theorem Sub.lst {F H : Hp} (s : Sub F H) {a : Addr} {vs : List V} (h : F a = some (.lst vs)) : H a = some (.lst vs) := s.at h (by intro k z; cases z) (by intro k z; cases z)
theorem Sub.tup {F H : Hp} (s : Sub F H) {a : Addr} {vs : List V} (h : F a = some (.tup vs)) : H a = some (.tup vs) := s.at h (by intro k z; cases z) (by intro k z; cases z)
theorem Sub.scr {F H : Hp} (s : Sub F H) {a : Addr} {o : Obj} {vs : List V} (h : F a = some (.frz o (.lst vs))) : H a = some (.frz o (.lst vs)) := s.at h (by intro k z; cases z) (by intro k z; cases z)
theorem Sub.ins {F H : Hp} (s : Sub F H) {a C dx : Addr} {fs : List (Str × V)} (h : F a = some (.ins C dx fs)) : H a = some (.ins C dx fs) :=
  s.at h (by intro k z; cases z) (by intro k z; cases z)
theorem Sub.none {F H : Hp} (s : Sub F H) {a : Addr} (h : H a = none) : F a = none := by
  cases q : F a with
  | none => rfl
  | some o =>
    rcases s a o q with z | ⟨_, ob, z⟩
    · rw [h] at z; cases z
    · rw [h] at z; cases z

/-- a pure step: all stands, new frozen things are new -/
structure Up (F H F' H' : Hp) : Prop where
  fr : Ex F F'
  hp : Ex H H'
  nw : ∀ a, F a = none → H a ≠ none → F' a = none
  sb : Sub F' H'
theorem Up.refl {F H : Hp} (s : Sub F H) : Up F H F H := ⟨Ex.refl F, Ex.refl H, fun _ h _ => h, s⟩
theorem Up.trans {F H F1 H1 F2 H2 : Hp} (a : Up F H F1 H1) (b : Up F1 H1 F2 H2) : Up F H F2 H2 :=
  ⟨a.fr.trans b.fr, a.hp.trans b.hp, fun x h h' => b.nw x (a.nw x h h') (by
    cases q : H x with
    | none => exact absurd q h'
    | some o => rw [a.hp x o q]; simp), b.sb⟩
/-- a new frozen object -/
theorem Up.lay {F H : Hp} {p : Addr} {o : HO} (s : Sub F H) (hp : H p = none) : Up F H (upd F p o) (upd H p o) := by
  have hF := s.none hp
  refine ⟨Ex.new hF, Ex.new hp, fun a h h' => ?_, fun a u q => ?_⟩
  · have hne : a ≠ p := fun z => by subst z; exact h' hp
    rw [upd_ne hne]; exact h
  · by_cases e : a = p
    · subst e
      rw [upd_same] at q; cases q
      exact .inl upd_same
    · rw [upd_ne e] at q
      rcases s a u q with z | ⟨k, ob, z⟩
      · exact .inl (by rw [upd_ne e]; exact z)
      · exact .inr ⟨k, ob, by rw [upd_ne e]; exact z⟩
/-- a new object, not frozen -/
theorem Up.layH {F H : Hp} {p : Addr} {o : HO} (s : Sub F H) (hp : H p = none) : Up F H F (upd H p o) := by
  refine ⟨Ex.refl F, Ex.new hp, fun a h h' => h, fun a u q => ?_⟩
  have hne : a ≠ p := fun z => by subst z; rw [s.none hp] at q; cases q
  rcases s a u q with z | ⟨k, ob, z⟩
  · exact .inl (by rw [upd_ne hne]; exact z)
  · exact .inr ⟨k, ob, by rw [upd_ne hne]; exact z⟩

/-! ### cells: what a name holds: frozen data, an own list, an own dict, an own dict of cells, an own object of cells, a hole -/
inductive Cell where
  | fz (d : Dt)
  | ol (ds : List Dt)
  | od (kvs : List (Key × Dt))
  | odt (kvs : List (List Key × Dt))
  | oc (kvs : List (Key × Cell))
  | ob (C : Str) (fs : List (Str × Cell))
  | hl (v : V)
  | fl (vs : List V) (ds : List Dt)

mutual
inductive RepC (K : PySem.W.Frag) (F H : Hp) : List Addr → V → Cell → Prop
  | fz {v : V} {d : Dt} : Rep K F v d → RepC K F H [] v (.fz d)
  | ol {p : Addr} {vs : List V} {ds : List Dt} : H p = some (.lst vs) → vs.length ≤ big → RepL K F vs ds → RepC K F H [p] (.ref p) (.ol ds)
  | od {p : Addr} {vs : List (Key × V)} {kvs : List (Key × Dt)} : H p = some (.dK vs) → vs.length ≤ big → RepK K F vs kvs → (vs.map (·.1)).Nodup → RepC K F H [p] (.ref p) (.od kvs)
  | odt {p : Addr} {vs : List (List Key × V)} {kvs : List (List Key × Dt)} : H p = some (.dT vs) → vs.length ≤ big → RepT K F vs kvs → (vs.map (·.1)).Nodup → RepC K F H [p] (.ref p) (.odt kvs)
  | oc {p : Addr} {fp : List Addr} {vs : List (Key × V)} {kvs : List (Key × Cell)} : H p = some (.dK vs) → vs.length ≤ big → RepCK K F H fp vs kvs → p ∉ fp → (vs.map (·.1)).Nodup → RepC K F H (p :: fp) (.ref p) (.oc kvs)
  | ob {p dx : Addr} {fp : List Addr} {C : Str} {vs : List (Str × V)} {fs : List (Str × Cell)} : H p = some (.ins (He.ga K C) dx vs) → RepCF K F H fp vs fs → p ∉ fp → RepC K F H (p :: fp) (.ref p) (.ob C fs)
  | hl {v : V} : RepC K F H [] v (.hl v)
  | fl {a : Addr} {vs : List V} {ds : List Dt} : F a = some (.lst vs) → vs.length ≤ big → RepL K F vs ds → RepC K F H [] (.ref a) (.fl vs ds)
inductive RepCK (K : PySem.W.Frag) (F H : Hp) : List Addr → List (Key × V) → List (Key × Cell) → Prop
  | nil : RepCK K F H [] [] []
  | cons {k : Key} {v : V} {c : Cell} {fp fq : List Addr} {vs : List (Key × V)} {kvs : List (Key × Cell)} : kOk k = true → RepC K F H fp v c → RepCK K F H fq vs kvs → (∀ a ∈ fp, a ∉ fq) → RepCK K F H (fp ++ fq) ((k, v) :: vs) ((k, c) :: kvs)
inductive RepCF (K : PySem.W.Frag) (F H : Hp) : List Addr → List (Str × V) → List (Str × Cell) → Prop
  | nil : RepCF K F H [] [] []
  | cons {k : Str} {v : V} {c : Cell} {fp fq : List Addr} {vs : List (Str × V)} {kvs : List (Str × Cell)} : RepC K F H fp v c → RepCF K F H fq vs kvs → (∀ a ∈ fp, a ∉ fq) → RepCF K F H (fp ++ fq) ((k, v) :: vs) ((k, c) :: kvs)
end
mutual
theorem RepC.mono {K : PySem.W.Frag} {F H F' H' : Hp} (e : Ex F F') : ∀ {fp : List Addr} {v : V} {c : Cell}, (∀ a ∈ fp, ∀ o, H a = some o → H' a = some o) → RepC K F H fp v c → RepC K F' H' fp v c
  | _, _, _, _, .fz r => .fz (r.mono e)
  | _, _, _, k, .ol h l r => .ol (k _ (by simp) _ h) l (r.mono e)
  | _, _, _, k, .od h l r n => .od (k _ (by simp) _ h) l (r.mono e) n
  | _, _, _, k, .odt h l r n => .odt (k _ (by simp) _ h) l (r.mono e) n
  | _, _, _, k, .oc h l r n d => .oc (k _ (by simp) _ h) l (RepCK.mono e (fun a ha => k a (List.mem_cons_of_mem _ ha)) r) n d
  | _, _, _, k, .ob h r n => .ob (k _ (by simp) _ h) (RepCF.mono e (fun a ha => k a (List.mem_cons_of_mem _ ha)) r) n
  | _, _, _, _, .hl => .hl
  | _, _, _, _, .fl h l r => .fl (e _ _ h) l (r.mono e)
theorem RepCK.mono {K : PySem.W.Frag} {F H F' H' : Hp} (e : Ex F F') : ∀ {fp : List Addr} {v : List (Key × V)} {c : List (Key × Cell)}, (∀ a ∈ fp, ∀ o, H a = some o → H' a = some o) → RepCK K F H fp v c → RepCK K F' H' fp v c
  | _, _, _, _, .nil => .nil
  | _, _, _, k, .cons o r rs d => .cons o (RepC.mono e (fun a ha => k a (List.mem_append_left _ ha)) r) (RepCK.mono e (fun a ha => k a (List.mem_append_right _ ha)) rs) d
theorem RepCF.mono {K : PySem.W.Frag} {F H F' H' : Hp} (e : Ex F F') : ∀ {fp : List Addr} {v : List (Str × V)} {c : List (Str × Cell)}, (∀ a ∈ fp, ∀ o, H a = some o → H' a = some o) → RepCF K F H fp v c → RepCF K F' H' fp v c
  | _, _, _, _, .nil => .nil
  | _, _, _, k, .cons r rs d => .cons (RepC.mono e (fun a ha => k a (List.mem_append_left _ ha)) r) (RepCF.mono e (fun a ha => k a (List.mem_append_right _ ha)) rs) d
end
/-- what is owned stands -/
theorem RepC.there {K : PySem.W.Frag} {F H : Hp} {fp : List Addr} {v : V} {d : Dt} (r : RepC K F H fp v (.fz d)) : fp = [] ∧ Rep K F v d := by cases r with | fz r => exact ⟨rfl, r⟩
theorem RepC.ol_inv {K : PySem.W.Frag} {F H : Hp} {fp : List Addr} {v : V} {ds : List Dt} (r : RepC K F H fp v (.ol ds)) : ∃ p vs, v = .ref p ∧ fp = [p] ∧ H p = some (.lst vs) ∧ vs.length ≤ big ∧ RepL K F vs ds := by
  cases r with | ol h l r => exact ⟨_, _, rfl, rfl, h, l, r⟩
theorem RepC.od_inv {K : PySem.W.Frag} {F H : Hp} {fp : List Addr} {v : V} {ds : List (Key × Dt)} (r : RepC K F H fp v (.od ds)) : ∃ p vs, v = .ref p ∧ fp = [p] ∧ H p = some (.dK vs) ∧ vs.length ≤ big ∧ RepK K F vs ds ∧ (vs.map (·.1)).Nodup := by
  cases r with | od h l r n => exact ⟨_, _, rfl, rfl, h, l, r, n⟩
theorem RepC.odt_inv {K : PySem.W.Frag} {F H : Hp} {fp : List Addr} {v : V} {ds : List (List Key × Dt)} (r : RepC K F H fp v (.odt ds)) : ∃ p vs, v = .ref p ∧ fp = [p] ∧ H p = some (.dT vs) ∧ vs.length ≤ big ∧ RepT K F vs ds ∧ (vs.map (·.1)).Nodup := by
  cases r with | odt h l r n => exact ⟨_, _, rfl, rfl, h, l, r, n⟩
theorem RepC.oc_inv {K : PySem.W.Frag} {F H : Hp} {fp : List Addr} {v : V} {ds : List (Key × Cell)} (r : RepC K F H fp v (.oc ds)) : ∃ p fq vs, v = .ref p ∧ fp = p :: fq ∧ H p = some (.dK vs) ∧ vs.length ≤ big ∧ RepCK K F H fq vs ds ∧ p ∉ fq ∧ (vs.map (·.1)).Nodup := by
  cases r with | oc h l r n d => exact ⟨_, _, _, rfl, rfl, h, l, r, n, d⟩
theorem RepC.ob_inv {K : PySem.W.Frag} {F H : Hp} {fp : List Addr} {v : V} {C : Str} {fs : List (Str × Cell)} (r : RepC K F H fp v (.ob C fs)) : ∃ p dx fq vs, v = .ref p ∧ fp = p :: fq ∧ H p = some (.ins (He.ga K C) dx vs) ∧ RepCF K F H fq vs fs ∧ p ∉ fq := by
  cases r with | ob h r n => exact ⟨_, _, _, _, rfl, rfl, h, r, n⟩
theorem RepC.fl_inv {K : PySem.W.Frag} {F H : Hp} {fp : List Addr} {v : V} {vs : List V} {ds : List Dt} (r : RepC K F H fp v (.fl vs ds)) : ∃ a, v = .ref a ∧ fp = [] ∧ F a = some (.lst vs) ∧ vs.length ≤ big ∧ RepL K F vs ds := by
  cases r with | fl h l r => exact ⟨_, rfl, rfl, h, l, r⟩
theorem RepC.hl_inv {K : PySem.W.Frag} {F H : Hp} {fp : List Addr} {v w : V} (r : RepC K F H fp v (.hl w)) : fp = [] ∧ v = w := by
  cases r with | hl => exact ⟨rfl, rfl⟩

abbrev Env := List (Option Cell)
/-- the names' cells; what is owned is apart -/
structure EnvOk (K : PySem.W.Frag) (F H : Hp) (σ : St) (G : Env) (fps : Nat → List Addr) : Prop where
  sub : Sub F H
  len : σ.length = G.length
  ent : ∀ (i : Nat) c, G[i]? = some (some c) → ∃ v, σ[i]? = some (some v) ∧ RepC K F H (fps i) v c
  own : ∀ i a, a ∈ fps i → F a = none ∧ H a ≠ none
  dis : ∀ i j a, a ∈ fps i → a ∈ fps j → i = j
theorem EnvOk.up {K : PySem.W.Frag} {F H F' H' : Hp} {σ : St} {G : Env} {fps : Nat → List Addr} (e : EnvOk K F H σ G fps) (u : Up F H F' H') : EnvOk K F' H' σ G fps := by
  refine ⟨u.sb, e.len, fun i c h => ?_, fun i a h => ?_, e.dis⟩
  · obtain ⟨v, h1, h2⟩ := e.ent i c h
    exact ⟨v, h1, RepC.mono u.fr (fun a _ o q => u.hp a o q) h2⟩
  · obtain ⟨h1, h2⟩ := e.own i a h
    refine ⟨u.nw a h1 h2, ?_⟩
    cases q : H a with
    | none => exact absurd q h2
    | some o => rw [u.hp a o q]; simp
def Owns (fps : Nat → List Addr) (a : Addr) : Prop := ∃ i, a ∈ fps i

/-- a step that may change what is owned -/
structure Le (O : Addr → Prop) (F H F' H' : Hp) (O' : Addr → Prop) : Prop where
  fr : Ex F F'
  hp : ∀ a o, ¬ O a → H a = some o → H' a = some o
  nw : ∀ a, ¬ O a → F a = none → H a ≠ none → F' a = none
  ow : ∀ a, O' a → O a ∨ H a = none
theorem Le.trans {O O1 O2 : Addr → Prop} {F H F1 H1 F2 H2 : Hp} (a : Le O F H F1 H1 O1) (b : Le O1 F1 H1 F2 H2 O2) : Le O F H F2 H2 O2 := by
  have no : ∀ x, ¬ O x → H x ≠ none → ¬ O1 x := fun x h h' z => by
    rcases a.ow x z with q | q
    · exact h q
    · exact h' q
  refine ⟨a.fr.trans b.fr, fun x o h q => b.hp x o (no x h (by rw [q]; simp)) (a.hp x o h q), fun x h q q' => ?_, fun x h => ?_⟩
  · refine b.nw x (no x h q') (a.nw x h q q') ?_
    cases z : H x with
    | none => exact absurd z q'
    | some o => rw [a.hp x o h z]; simp
  · by_cases hO : O x
    · exact .inl hO
    · rcases b.ow x h with q | q
      · exact a.ow x q
      · refine .inr ?_
        cases z : H x with
        | none => rfl
        | some o => rw [a.hp x o hO z] at q; cases q
theorem Up.le {F H F' H' : Hp} {O : Addr → Prop} (u : Up F H F' H') : Le O F H F' H' O :=
  ⟨u.fr, fun a o _ q => u.hp a o q, fun a _ h h' => u.nw a h h', fun _ h => .inl h⟩
theorem Le.refl {F H : Hp} {O : Addr → Prop} : Le O F H F H O := ⟨Ex.refl F, fun _ _ _ q => q, fun _ _ h _ => h, fun _ h => .inl h⟩

/-! ### the weakest readings, over a family of contexts -/
section
variable {I : Type}
def wpE (X : I → Cx) (e : Expr) : TE := fun σ H Q => ∃ t, (∀ i, PE (X i) e t) ∧ t σ H Q
def wpT (X : I → Cx) (e : Expr) : TT := fun σ H Q => ∃ t, (∀ i, PT (X i) e t) ∧ t σ H Q
def wpW (X : I → Cx) (e : Expr) : TT := fun σ H Q => ∃ t, (∀ i, PW (X i) e t) ∧ t σ H Q
def wpA (X : I → Cx) (es : List Expr) : TA := fun σ H Q => ∃ t, (∀ i, PA (X i) es t) ∧ t σ H Q
theorem pe_wp {X : I → Cx} {e : Expr} (i : I) : PE (X i) e (wpE X e) := ⟨fun pins s σ H Q J ⟨_, h, q⟩ => (h i).run pins s σ H Q J q⟩
theorem pt_wp {X : I → Cx} {e : Expr} (i : I) : PT (X i) e (wpT X e) := ⟨fun pins s σ H Q J ⟨_, h, q⟩ => (h i).run pins s σ H Q J q⟩
theorem pw_wp {X : I → Cx} {e : Expr} (i : I) : PW (X i) e (wpW X e) := ⟨fun wh pins s σ H Q J ⟨_, h, q⟩ => (h i).run wh pins s σ H Q J q⟩
theorem pa_wp {X : I → Cx} {es : List Expr} (i : I) : PA (X i) es (wpA X es) := ⟨fun pos pins s σ H Q J ⟨_, h, q⟩ => (h i).run pos pins s σ H Q J q⟩
end
def wpS (X : Cx) (st : Stmt) : TS := fun D σ H => ∃ t, PS X st t ∧ t D σ H
def wpSs (X : Cx) (ss : List Stmt) : TS := fun D σ H => ∃ t, PSs X ss t ∧ t D σ H
theorem ps_wp {X : Cx} {st : Stmt} : PS X st (wpS X st) := ⟨fun pins s σ H D J ⟨_, h, q⟩ => h.run pins s σ H D J q⟩
theorem pss_wp {X : Cx} {ss : List Stmt} : PSs X ss (wpSs X ss) := ⟨fun pins s σ H D J ⟨_, h, q⟩ => h.run pins s σ H D J q⟩

/-! ### judgements of expressions -/
section
variable {I : Type}
/-- e gives the frozen data d -/
def EX (X : I → Cx) (K : PySem.W.Frag) (G : Env) (e : Expr) (d : Dt) : Prop :=
  ∀ F H σ fps (Q : VK), EnvOk K F H σ G fps → (∀ F' H' v, Up F H F' H' → Rep K F' v d → Q v H') → wpE X e σ H Q
/-- e gives a new cell -/
def EN (X : I → Cx) (K : PySem.W.Frag) (G : Env) (e : Expr) (c : Cell) : Prop :=
  ∀ F H σ fps (Q : VK), EnvOk K F H σ G fps → (∀ F' H' v fp, Up F H F' H' → RepC K F' H' fp v c → (∀ a ∈ fp, H a = none ∧ F' a = none ∧ H' a ≠ none) → Q v H') → wpE X e σ H Q
/-- e is a test's answer -/
def EB (X : I → Cx) (K : PySem.W.Frag) (G : Env) (e : Expr) (b : Bool) : Prop :=
  ∀ F H σ fps (Q : Bool → Hp → Prop), EnvOk K F H σ G fps → (∀ F' H', Up F H F' H' → Q b H') → wpT X e σ H Q
def EBW (X : I → Cx) (K : PySem.W.Frag) (G : Env) (e : Expr) (b : Bool) : Prop :=
  ∀ F H σ fps (Q : Bool → Hp → Prop), EnvOk K F H σ G fps → (∀ F' H', Up F H F' H' → Q b H') → wpW X e σ H Q
/-- arguments, from the left -/
def EA (X : I → Cx) (K : PySem.W.Frag) (G : Env) (es : List Expr) (ds : List Dt) : Prop :=
  ∀ F H σ fps (Q : List V → Hp → Prop), EnvOk K F H σ G fps → (∀ F' H' vs, Up F H F' H' → RepL K F' vs ds → Q vs H') → wpA X es σ H Q

variable {X : I → Cx} {K : PySem.W.Frag} {G : Env}
theorem ex_var {i : Nat} {x : Str} {pos : Pos} {d : Dt} (hg : G[i]? = some (some (.fz d))) (hN : ∀ j, (X j).N[i]? = some x) (hv : ∀ j, Vis (X j).env.scope x)
    (hd : (x == ("__debug__" : Str)) = false := by decide) (hcd : (x == ("__classdict__" : Str)) = false := by decide) : EX X K G (.Name x pos) d := fun F H σ fps Q e q => by
  obtain ⟨v, h1, h2⟩ := e.ent i _ hg
  exact ⟨tVar i, fun j => pe_var (hN j) (hv j) hd hcd, v, h1, q F H v (Up.refl e.sub) h2.there.2⟩
theorem ex_int {i : Int} {j pos} : EX X K G (.Constant (.int i) j pos) (.int i) := fun F H σ fps Q e q => ⟨_, fun _ => pe_int, q F H _ (Up.refl e.sub) (.int i)⟩
theorem ex_bl {b : Bool} {j pos} : EX X K G (.Constant (.bool b) j pos) (.bl b) := fun F H σ fps Q e q => ⟨_, fun _ => pe_bl, q F H _ (Up.refl e.sub) (.bl b)⟩
theorem ex_non {j pos} : EX X K G (.Constant .none j pos) .non := fun F H σ fps Q e q => ⟨_, fun _ => pe_non, q F H _ (Up.refl e.sub) .non⟩
theorem ex_str {s : Str} {j pos} (h : goodB s = true := by decide +kernel) : EX X K G (.Constant (.str s) j pos) (.str s) := fun F H σ fps Q e q => ⟨_, fun _ => pe_str, q F H _ (Up.refl e.sub) (.str s h)⟩
theorem ea_nil : EA X K G [] [] := fun F H σ fps Q e q => ⟨_, fun _ => pa_nil, q F H [] (Up.refl e.sub) .nil⟩
end
end Vs

/-! Places within cells: taking a cell out, giving it back, freezing. -/
namespace Vs
open PySem PySem.Spec L2

/-! ### places -/
mutual
def Cell.at : Cell → List Nat → Option Cell
  | c, [] => some c
  | .ob _ fs, i :: π => atF fs i π
  | .oc kvs, i :: π => atK kvs i π
  | _, _ :: _ => none
def atF : List (Str × Cell) → Nat → List Nat → Option Cell
  | [], _, _ => none
  | (_, c) :: _, 0, π => c.at π
  | _ :: fs, i + 1, π => atF fs i π
def atK : List (Key × Cell) → Nat → List Nat → Option Cell
  | [], _, _ => none
  | (_, c) :: _, 0, π => c.at π
  | _ :: fs, i + 1, π => atK fs i π
end
mutual
def Cell.upd : Cell → List Nat → Cell → Cell
  | _, [], x => x
  | .ob C fs, i :: π, x => .ob C (updF fs i π x)
  | .oc kvs, i :: π, x => .oc (updK kvs i π x)
  | c, _ :: _, _ => c
def updF : List (Str × Cell) → Nat → List Nat → Cell → List (Str × Cell)
  | [], _, _, _ => []
  | (k, c) :: fs, 0, π, x => (k, c.upd π x) :: fs
  | z :: fs, i + 1, π, x => z :: updF fs i π x
def updK : List (Key × Cell) → Nat → List Nat → Cell → List (Key × Cell)
  | [], _, _, _ => []
  | (k, c) :: fs, 0, π, x => (k, c.upd π x) :: fs
  | z :: fs, i + 1, π, x => z :: updK fs i π x
end
mutual
theorem Cell.at_upd (x : Cell) : ∀ (c : Cell) (π : List Nat), (c.at π).isSome = true → (c.upd π x).at π = some x
  | c, [], _ => by cases c <;> simp [Cell.at, Cell.upd]
  | .ob _ fs, i :: π, h => by
    simp only [Cell.at, Cell.upd] at h ⊢
    exact atF_upd x fs i π h
  | .oc fs, i :: π, h => by
    simp only [Cell.at, Cell.upd] at h ⊢
    exact atK_upd x fs i π h
  | .fz _, _ :: _, h => by simp [Cell.at] at h
  | .ol _, _ :: _, h => by simp [Cell.at] at h
  | .od _, _ :: _, h => by simp [Cell.at] at h
  | .odt _, _ :: _, h => by simp [Cell.at] at h
  | .hl _, _ :: _, h => by simp [Cell.at] at h
  | .fl _ _, _ :: _, h => by simp [Cell.at] at h
theorem atF_upd (x : Cell) : ∀ (fs : List (Str × Cell)) (i : Nat) (π : List Nat), (atF fs i π).isSome = true → atF (updF fs i π x) i π = some x
  | [], _, _, h => by simp [atF] at h
  | (_, c) :: _, 0, π, h => by
    simp only [atF, updF] at h ⊢
    exact Cell.at_upd x c π h
  | _ :: fs, i + 1, π, h => by
    simp only [atF, updF] at h ⊢
    exact atF_upd x fs i π h
theorem atK_upd (x : Cell) : ∀ (fs : List (Key × Cell)) (i : Nat) (π : List Nat), (atK fs i π).isSome = true → atK (updK fs i π x) i π = some x
  | [], _, _, h => by simp [atK] at h
  | (_, c) :: _, 0, π, h => by
    simp only [atK, updK] at h ⊢
    exact Cell.at_upd x c π h
  | _ :: fs, i + 1, π, h => by
    simp only [atK, updK] at h ⊢
    exact atK_upd x fs i π h
end
mutual
theorem Cell.upd_upd (x y : Cell) : ∀ (c : Cell) (π : List Nat), (c.upd π x).upd π y = c.upd π y
  | c, [] => by cases c <;> simp [Cell.upd]
  | .ob _ fs, i :: π => by simp only [Cell.upd]; rw [updF_upd x y fs i π]
  | .oc fs, i :: π => by simp only [Cell.upd]; rw [updK_upd x y fs i π]
  | .fz _, _ :: _ => by simp [Cell.upd]
  | .ol _, _ :: _ => by simp [Cell.upd]
  | .od _, _ :: _ => by simp [Cell.upd]
  | .odt _, _ :: _ => by simp [Cell.upd]
  | .hl _, _ :: _ => by simp [Cell.upd]
  | .fl _ _, _ :: _ => by simp [Cell.upd]
theorem updF_upd (x y : Cell) : ∀ (fs : List (Str × Cell)) (i : Nat) (π : List Nat), updF (updF fs i π x) i π y = updF fs i π y
  | [], _, _ => by simp [updF]
  | (_, c) :: _, 0, π => by simp only [updF]; rw [Cell.upd_upd x y c π]
  | _ :: fs, i + 1, π => by simp only [updF]; rw [updF_upd x y fs i π]
theorem updK_upd (x y : Cell) : ∀ (fs : List (Key × Cell)) (i : Nat) (π : List Nat), updK (updK fs i π x) i π y = updK fs i π y
  | [], _, _ => by simp [updK]
  | (_, c) :: _, 0, π => by simp only [updK]; rw [Cell.upd_upd x y c π]
  | _ :: fs, i + 1, π => by simp only [updK]; rw [updK_upd x y fs i π]
end
/-- the value at a place, over the heap -/
inductive LocV (H : Hp) : V → List Nat → V → Prop
  | nil {v : V} : LocV H v [] v
  | fld {p C dx : Addr} {vs : List (Str × V)} {i : Nat} {f : Str} {w v : V} {π : List Nat} : H p = some (.ins C dx vs) → vs[i]? = some (f, w) → LocV H w π v → LocV H (.ref p) (i :: π) v
  | key {p : Addr} {vs : List (Key × V)} {i : Nat} {k : Key} {w v : V} {π : List Nat} : H p = some (.dK vs) → vs[i]? = some (k, w) → LocV H w π v → LocV H (.ref p) (i :: π) v

section
variable {K : PySem.W.Frag} {F H : Hp}
mutual
theorem RepC.take : ∀ {fp : List Addr} {v : V} {c : Cell}, RepC K F H fp v c → ∀ {π : List Nat} {c' : Cell}, c.at π = some c' →
    ∃ v' fp' fp1, LocV H v π v' ∧ RepC K F H fp' v' c' ∧ RepC K F H fp1 v (c.upd π (.hl v')) ∧ (∀ a, a ∈ fp ↔ a ∈ fp1 ∨ a ∈ fp') ∧ (∀ a ∈ fp', a ∉ fp1)
  | fp, v, c, r, [], c', h => by
    have e : c = c' := by cases c <;> simpa [Cell.at] using h
    subst e
    refine ⟨v, fp, [], .nil, r, ?_, by simp, by simp⟩
    have : c.upd [] (.hl v) = .hl v := by cases c <;> simp [Cell.upd]
    rw [this]; exact .hl
  | _, _, _, .ob (p := p) h1 r n, i :: π, c', h => by
    simp only [Cell.at] at h
    obtain ⟨f, w, v', fp', fp1, a1, a2, a3, a4, a5, a6⟩ := RepCF.take r h
    refine ⟨v', fp', p :: fp1, .fld h1 a1 a2, a3, ?_, fun a => ?_, fun a ha => ?_⟩
    · simp only [Cell.upd]
      exact .ob h1 a4 fun z => n ((a5 _).mpr (.inl z))
    · rw [List.mem_cons, List.mem_cons, a5 a, or_assoc]
    · intro z
      rcases List.mem_cons.mp z with e | z
      · subst e; exact n ((a5 _).mpr (.inr ha))
      · exact a6 a ha z
  | _, _, _, .oc (p := p) h1 l r n dd, i :: π, c', h => by
    simp only [Cell.at] at h
    obtain ⟨f, w, v', fp', fp1, a1, a2, a3, a4, a5, a6⟩ := RepCK.take r h
    refine ⟨v', fp', p :: fp1, .key h1 a1 a2, a3, ?_, fun a => ?_, fun a ha => ?_⟩
    · simp only [Cell.upd]
      exact .oc h1 l a4 (fun z => n ((a5 _).mpr (.inl z))) dd
    · rw [List.mem_cons, List.mem_cons, a5 a, or_assoc]
    · intro z
      rcases List.mem_cons.mp z with e | z
      · subst e; exact n ((a5 _).mpr (.inr ha))
      · exact a6 a ha z
  | _, _, _, .fz _, _ :: _, _, h => by simp [Cell.at] at h
  | _, _, _, .ol _ _ _, _ :: _, _, h => by simp [Cell.at] at h
  | _, _, _, .od _ _ _ _, _ :: _, _, h => by simp [Cell.at] at h
  | _, _, _, .odt _ _ _ _, _ :: _, _, h => by simp [Cell.at] at h
  | _, _, _, .hl, _ :: _, _, h => by simp [Cell.at] at h
  | _, _, _, .fl _ _ _, _ :: _, _, h => by simp [Cell.at] at h
theorem RepCF.take : ∀ {fp : List Addr} {vs : List (Str × V)} {fs : List (Str × Cell)}, RepCF K F H fp vs fs → ∀ {i : Nat} {π : List Nat} {c' : Cell}, atF fs i π = some c' →
    ∃ f w v' fp' fp1, vs[i]? = some (f, w) ∧ LocV H w π v' ∧ RepC K F H fp' v' c' ∧ RepCF K F H fp1 vs (updF fs i π (.hl v')) ∧ (∀ a, a ∈ fp ↔ a ∈ fp1 ∨ a ∈ fp') ∧ (∀ a ∈ fp', a ∉ fp1)
  | _, _, _, .nil, _, _, _, h => by simp [atF] at h
  | _, _, _, .cons (k := kk) (v := vv) (fp := fpa) (fq := fqa) r rs d, 0, π, c', h => by
    simp only [atF] at h
    obtain ⟨v', fp', fp1, a1, a2, a3, a4, a5⟩ := RepC.take r h
    refine ⟨kk, vv, v', fp', fp1 ++ fqa, rfl, a1, a2, ?_, fun a => ?_, fun a ha => ?_⟩
    · simp only [updF]
      exact .cons a3 rs fun a ha => d a ((a4 a).mpr (.inl ha))
    · rw [List.mem_append, List.mem_append, a4 a]
      constructor
      · rintro ((h | h) | h)
        · exact .inl (.inl h)
        · exact .inr h
        · exact .inl (.inr h)
      · rintro ((h | h) | h)
        · exact .inl (.inl h)
        · exact .inr h
        · exact .inl (.inr h)
    · intro z
      rcases List.mem_append.mp z with z | z
      · exact a5 a ha z
      · exact d a ((a4 a).mpr (.inr ha)) z
  | _, _, _, .cons (fp := fpa) (fq := fqa) r rs d, i + 1, π, c', h => by
    simp only [atF] at h
    obtain ⟨f, w, v', fp', fp1, a1, a2, a3, a4, a5, a6⟩ := RepCF.take rs h
    refine ⟨f, w, v', fp', fpa ++ fp1, by simpa using a1, a2, a3, ?_, fun a => ?_, fun a ha => ?_⟩
    · simp only [updF]
      exact .cons r a4 fun a ha z => d a ha ((a5 a).mpr (.inl z))
    · rw [List.mem_append, List.mem_append, a5 a, or_assoc]
    · intro z
      rcases List.mem_append.mp z with z | z
      · exact d a z ((a5 a).mpr (.inr ha))
      · exact a6 a ha z
theorem RepCK.take : ∀ {fp : List Addr} {vs : List (Key × V)} {fs : List (Key × Cell)}, RepCK K F H fp vs fs → ∀ {i : Nat} {π : List Nat} {c' : Cell}, atK fs i π = some c' →
    ∃ f w v' fp' fp1, vs[i]? = some (f, w) ∧ LocV H w π v' ∧ RepC K F H fp' v' c' ∧ RepCK K F H fp1 vs (updK fs i π (.hl v')) ∧ (∀ a, a ∈ fp ↔ a ∈ fp1 ∨ a ∈ fp') ∧ (∀ a ∈ fp', a ∉ fp1)
  | _, _, _, .nil, _, _, _, h => by simp [atK] at h
  | _, _, _, .cons (k := kk) (v := vv) (fp := fpa) (fq := fqa) o r rs d, 0, π, c', h => by
    simp only [atK] at h
    obtain ⟨v', fp', fp1, a1, a2, a3, a4, a5⟩ := RepC.take r h
    refine ⟨kk, vv, v', fp', fp1 ++ fqa, rfl, a1, a2, ?_, fun a => ?_, fun a ha => ?_⟩
    · simp only [updK]
      exact .cons o a3 rs fun a ha => d a ((a4 a).mpr (.inl ha))
    · rw [List.mem_append, List.mem_append, a4 a]
      constructor
      · rintro ((h | h) | h)
        · exact .inl (.inl h)
        · exact .inr h
        · exact .inl (.inr h)
      · rintro ((h | h) | h)
        · exact .inl (.inl h)
        · exact .inr h
        · exact .inl (.inr h)
    · intro z
      rcases List.mem_append.mp z with z | z
      · exact a5 a ha z
      · exact d a ((a4 a).mpr (.inr ha)) z
  | _, _, _, .cons (fp := fpa) (fq := fqa) o r rs d, i + 1, π, c', h => by
    simp only [atK] at h
    obtain ⟨f, w, v', fp', fp1, a1, a2, a3, a4, a5, a6⟩ := RepCK.take rs h
    refine ⟨f, w, v', fp', fpa ++ fp1, by simpa using a1, a2, a3, ?_, fun a => ?_, fun a ha => ?_⟩
    · simp only [updK]
      exact .cons o r a4 fun a ha z => d a ha ((a5 a).mpr (.inl z))
    · rw [List.mem_append, List.mem_append, a5 a, or_assoc]
    · intro z
      rcases List.mem_append.mp z with z | z
      · exact d a z ((a5 a).mpr (.inr ha))
      · exact a6 a ha z
end
mutual
theorem RepC.give {fp' : List Addr} {v' : V} {c' : Cell} (r' : RepC K F H fp' v' c') : ∀ {fp : List Addr} {v : V} {c : Cell}, RepC K F H fp v c → ∀ {π : List Nat}, c.at π = some (.hl v') → (∀ a ∈ fp', a ∉ fp) →
    ∃ fp1, RepC K F H fp1 v (c.upd π c') ∧ (∀ a, a ∈ fp1 ↔ a ∈ fp ∨ a ∈ fp')
  | fp, v, c, r, [], h, d => by
    have e : c = .hl v' := by cases c <;> simpa [Cell.at] using h
    subst e
    obtain ⟨rfl, rfl⟩ := r.hl_inv
    exact ⟨fp', by simpa [Cell.upd] using r', by simp⟩
  | _, _, _, .ob (p := p) h1 r n, i :: π, h, d => by
    simp only [Cell.at] at h
    obtain ⟨fp1, a1, a2⟩ := RepCF.give r' r h fun a ha z => d a ha (List.mem_cons_of_mem _ z)
    refine ⟨p :: fp1, ?_, fun a => by rw [List.mem_cons, List.mem_cons, a2 a, or_assoc]⟩
    simp only [Cell.upd]
    exact .ob h1 a1 fun z => ((a2 _).mp z).elim n fun z => d _ z (by simp)
  | _, _, _, .oc (p := p) h1 l r n dd, i :: π, h, d => by
    simp only [Cell.at] at h
    obtain ⟨fp1, a1, a2⟩ := RepCK.give r' r h fun a ha z => d a ha (List.mem_cons_of_mem _ z)
    refine ⟨p :: fp1, ?_, fun a => by rw [List.mem_cons, List.mem_cons, a2 a, or_assoc]⟩
    simp only [Cell.upd]
    exact .oc h1 l a1 (fun z => ((a2 _).mp z).elim n fun z => d _ z (by simp)) dd
  | _, _, _, .fz _, _ :: _, h, _ => by simp [Cell.at] at h
  | _, _, _, .ol _ _ _, _ :: _, h, _ => by simp [Cell.at] at h
  | _, _, _, .od _ _ _ _, _ :: _, h, _ => by simp [Cell.at] at h
  | _, _, _, .odt _ _ _ _, _ :: _, h, _ => by simp [Cell.at] at h
  | _, _, _, .hl, _ :: _, h, _ => by simp [Cell.at] at h
  | _, _, _, .fl _ _ _, _ :: _, h, _ => by simp [Cell.at] at h
theorem RepCF.give {fp' : List Addr} {v' : V} {c' : Cell} (r' : RepC K F H fp' v' c') : ∀ {fp : List Addr} {vs : List (Str × V)} {fs : List (Str × Cell)}, RepCF K F H fp vs fs → ∀ {i : Nat} {π : List Nat}, atF fs i π = some (.hl v') → (∀ a ∈ fp', a ∉ fp) →
    ∃ fp1, RepCF K F H fp1 vs (updF fs i π c') ∧ (∀ a, a ∈ fp1 ↔ a ∈ fp ∨ a ∈ fp')
  | _, _, _, .nil, _, _, h, _ => by simp [atF] at h
  | _, _, _, .cons (fp := fpa) (fq := fqa) r rs d, 0, π, h, dd => by
    simp only [atF] at h
    obtain ⟨fp1, a1, a2⟩ := RepC.give r' r h fun a ha z => dd a ha (List.mem_append_left _ z)
    refine ⟨fp1 ++ fqa, ?_, fun a => ?_⟩
    · simp only [updF]
      exact .cons a1 rs fun a ha => ((a2 a).mp ha).elim (d a) fun z y => dd a z (List.mem_append_right _ y)
    · rw [List.mem_append, List.mem_append, a2 a]
      constructor
      · rintro ((h | h) | h)
        · exact .inl (.inl h)
        · exact .inr h
        · exact .inl (.inr h)
      · rintro ((h | h) | h)
        · exact .inl (.inl h)
        · exact .inr h
        · exact .inl (.inr h)
  | _, _, _, .cons (fp := fpa) (fq := fqa) r rs d, i + 1, π, h, dd => by
    simp only [atF] at h
    obtain ⟨fp1, a1, a2⟩ := RepCF.give r' rs h fun a ha z => dd a ha (List.mem_append_right _ z)
    refine ⟨fpa ++ fp1, ?_, fun a => by rw [List.mem_append, List.mem_append, a2 a, or_assoc]⟩
    simp only [updF]
    exact .cons r a1 fun a ha z => ((a2 a).mp z).elim (d a ha) fun y => dd a y (List.mem_append_left _ ha)
theorem RepCK.give {fp' : List Addr} {v' : V} {c' : Cell} (r' : RepC K F H fp' v' c') : ∀ {fp : List Addr} {vs : List (Key × V)} {fs : List (Key × Cell)}, RepCK K F H fp vs fs → ∀ {i : Nat} {π : List Nat}, atK fs i π = some (.hl v') → (∀ a ∈ fp', a ∉ fp) →
    ∃ fp1, RepCK K F H fp1 vs (updK fs i π c') ∧ (∀ a, a ∈ fp1 ↔ a ∈ fp ∨ a ∈ fp')
  | _, _, _, .nil, _, _, h, _ => by simp [atK] at h
  | _, _, _, .cons (fp := fpa) (fq := fqa) o r rs d, 0, π, h, dd => by
    simp only [atK] at h
    obtain ⟨fp1, a1, a2⟩ := RepC.give r' r h fun a ha z => dd a ha (List.mem_append_left _ z)
    refine ⟨fp1 ++ fqa, ?_, fun a => ?_⟩
    · simp only [updK]
      exact .cons o a1 rs fun a ha => ((a2 a).mp ha).elim (d a) fun z y => dd a z (List.mem_append_right _ y)
    · rw [List.mem_append, List.mem_append, a2 a]
      constructor
      · rintro ((h | h) | h)
        · exact .inl (.inl h)
        · exact .inr h
        · exact .inl (.inr h)
      · rintro ((h | h) | h)
        · exact .inl (.inl h)
        · exact .inr h
        · exact .inl (.inr h)
  | _, _, _, .cons (fp := fpa) (fq := fqa) o r rs d, i + 1, π, h, dd => by
    simp only [atK] at h
    obtain ⟨fp1, a1, a2⟩ := RepCK.give r' rs h fun a ha z => dd a ha (List.mem_append_right _ z)
    refine ⟨fpa ++ fp1, ?_, fun a => by rw [List.mem_append, List.mem_append, a2 a, or_assoc]⟩
    simp only [updK]
    exact .cons o r a1 fun a ha z => ((a2 a).mp z).elim (d a ha) fun y => dd a y (List.mem_append_left _ ha)
end
end

/-! ### places of the names -/
def atG (G : Env) (i : Nat) (π : List Nat) : Option Cell := match G[i]? with
  | some (some c) => c.at π
  | _ => none
def updG (G : Env) (i : Nat) (π : List Nat) (x : Cell) : Env := match G[i]? with
  | some (some c) => G.set i (some (c.upd π x))
  | _ => G
theorem updG_len (G : Env) (i : Nat) (π : List Nat) (x : Cell) : (updG G i π x).length = G.length := by
  unfold updG
  split <;> simp
theorem atG_some {G : Env} {i : Nat} {π : List Nat} {c : Cell} (h : atG G i π = some c) : ∃ c0, G[i]? = some (some c0) ∧ c0.at π = some c := by
  unfold atG at h
  split at h
  · rename_i c0 e; exact ⟨c0, e, h⟩
  · cases h
theorem atG_upd {G : Env} {i : Nat} {π : List Nat} {c x : Cell} (h : atG G i π = some c) : atG (updG G i π x) i π = some x := by
  obtain ⟨c0, e, h⟩ := atG_some h
  have hl : i < G.length := (List.getElem?_eq_some_iff.mp e).1
  unfold atG updG
  rw [e]
  simp only [List.getElem?_set_self hl]
  exact Cell.at_upd x c0 π (by rw [h]; rfl)
theorem updG_upd {G : Env} {i : Nat} {π : List Nat} {x y : Cell} : updG (updG G i π x) i π y = updG G i π y := by
  unfold updG
  cases e : G[i]? with
  | none => simp only []; rw [e]
  | some o =>
    cases o with
    | none => simp only []; rw [e]
    | some c =>
      have hl : i < G.length := (List.getElem?_eq_some_iff.mp e).1
      simp only [List.getElem?_set_self hl, Cell.upd_upd, List.set_set]
theorem atG_ne {G : Env} {i j : Nat} {π ρ : List Nat} {x : Cell} (h : i ≠ j) : atG (updG G i π x) j ρ = atG G j ρ := by
  unfold atG updG
  cases e : G[i]? with
  | none => rfl
  | some o =>
    cases o with
    | none => rfl
    | some c => simp only [List.getElem?_set_ne h]
theorem updG_comm {G : Env} {i j : Nat} {π ρ : List Nat} {x y : Cell} (h : i ≠ j) : updG (updG G i π x) j ρ y = updG (updG G j ρ y) i π x := by
  unfold updG
  cases e : G[i]? with
  | none =>
    simp only []
    cases e' : G[j]? with
    | none => simp only []; rw [e]
    | some o =>
      cases o with
      | none => simp only []; rw [e]
      | some c => simp only [List.getElem?_set_ne (Ne.symm h), e]
  | some o =>
    cases o with
    | none =>
      simp only []
      cases e' : G[j]? with
      | none => simp only []; rw [e]
      | some o =>
        cases o with
        | none => simp only []; rw [e]
        | some c => simp only [List.getElem?_set_ne (Ne.symm h), e]
    | some c =>
      simp only [List.getElem?_set_ne h]
      cases e' : G[j]? with
      | none => simp only [e]
      | some o =>
        cases o with
        | none => simp only [e]
        | some c2 =>
          simp only [List.getElem?_set_ne (Ne.symm h), e]
          rw [List.set_comm _ _ h]
/-- the value at a place of the names -/
def LocG (H : Hp) (σ : L2.St) (i : Nat) (π : List Nat) (v : V) : Prop := ∃ u, σ[i]? = some (some u) ∧ LocV H u π v
theorem LocV.fun {H : Hp} : ∀ {π : List Nat} {u v w : V}, LocV H u π v → LocV H u π w → v = w
  | _, _, _, _, .nil, .nil => rfl
  | _, _, _, _, .fld a b c, .fld a' b' c' => by
    rw [a] at a'; cases a'
    rw [b] at b'; cases b'
    exact c.fun c'
  | _, _, _, _, .key a b c, .key a' b' c' => by
    rw [a] at a'; cases a'
    rw [b] at b'; cases b'
    exact c.fun c'
  | _, _, _, _, .fld a _ _, .key a' _ _ => by rw [a] at a'; cases a'
  | _, _, _, _, .key a _ _, .fld a' _ _ => by rw [a] at a'; cases a'
theorem LocG.fun {H : Hp} {σ : L2.St} {i : Nat} {π : List Nat} {v w : V} (h : LocG H σ i π v) (h' : LocG H σ i π w) : v = w := by
  obtain ⟨u, a, b⟩ := h
  obtain ⟨u', a', b'⟩ := h'
  rw [a] at a'; cases a'
  exact b.fun b'
theorem LocV.mono {H H' : Hp} (e : Ex H H') : ∀ {π : List Nat} {u v : V}, LocV H u π v → LocV H' u π v
  | _, _, _, .nil => .nil
  | _, _, _, .fld a b c => .fld (e _ _ a) b (c.mono e)
  | _, _, _, .key a b c => .key (e _ _ a) b (c.mono e)
theorem LocG.mono {H H' : Hp} (e : Ex H H') {σ : L2.St} {i : Nat} {π : List Nat} {v : V} (h : LocG H σ i π v) : LocG H' σ i π v := ⟨h.choose, h.choose_spec.1, h.choose_spec.2.mono e⟩

section
variable {K : PySem.W.Frag} {F H : Hp} {σ : L2.St} {G : Env} {fps : Nat → List Addr}
def put (fps : Nat → List Addr) (i : Nat) (fp : List Addr) : Nat → List Addr := fun j => if j = i then fp else fps j
theorem put_same {fps : Nat → List Addr} {i : Nat} {fp : List Addr} : put fps i fp i = fp := if_pos rfl
theorem put_ne {fps : Nat → List Addr} {i j : Nat} {fp : List Addr} (h : j ≠ i) : put fps i fp j = fps j := if_neg h
/-- another cell for the value of a name -/
theorem EnvOk.recell {i : Nat} {c0 c1 : Cell} {fp : List Addr} {v : V} (E : EnvOk K F H σ G fps) (hg : G[i]? = some (some c0)) (hv : σ[i]? = some (some v)) (r : RepC K F H fp v c1) (own : ∀ a ∈ fp, F a = none ∧ H a ≠ none) (dis : ∀ a ∈ fp, ∀ j, j ≠ i → a ∉ fps j) :
    EnvOk K F H σ (G.set i (some c1)) (put fps i fp) := by
  have hl : i < G.length := (List.getElem?_eq_some_iff.mp hg).1
  refine ⟨E.sub, by rw [List.length_set]; exact E.len, fun j c h => ?_, fun j a h => ?_, fun j k a h h' => ?_⟩
  · by_cases hj : j = i
    · subst hj
      rw [List.getElem?_set_self hl] at h; cases h
      exact ⟨v, hv, by rw [put_same]; exact r⟩
    · rw [List.getElem?_set_ne (fun z => hj z.symm)] at h
      rw [put_ne hj]
      exact E.ent j c h
  · by_cases hj : j = i
    · subst hj; rw [put_same] at h; exact own a h
    · rw [put_ne hj] at h; exact E.own j a h
  · by_cases hj : j = i
    · subst hj
      by_cases hk : k = j
      · exact hk.symm
      · rw [put_same] at h; rw [put_ne hk] at h'
        exact absurd h' (dis a h k hk)
    · rw [put_ne hj] at h
      by_cases hk : k = i
      · subst hk; rw [put_same] at h'
        exact absurd h (dis a h' j hj)
      · rw [put_ne hk] at h'
        exact E.dis j k a h h'
/-- a cell is taken out of its place -/
theorem EnvOk.take (E : EnvOk K F H σ G fps) {i : Nat} {π : List Nat} {c : Cell} (h : atG G i π = some c) :
    ∃ v fpc fps1, LocG H σ i π v ∧ RepC K F H fpc v c ∧ EnvOk K F H σ (updG G i π (.hl v)) fps1 ∧ (∀ a, Owns fps a ↔ Owns fps1 a ∨ a ∈ fpc) ∧ (∀ a ∈ fpc, ¬ Owns fps1 a) := by
  obtain ⟨c0, e, h0⟩ := atG_some h
  obtain ⟨u, hu, r⟩ := E.ent i c0 e
  obtain ⟨v, fpc, fp1, a1, a2, a3, a4, a5⟩ := r.take h0
  have E1 := E.recell e hu a3 (fun a ha => E.own i a ((a4 a).mpr (.inl ha))) (fun a ha j hj z => hj (E.dis j i a z ((a4 a).mpr (.inl ha))))
  refine ⟨v, fpc, put fps i fp1, ⟨u, hu, a1⟩, a2, by unfold updG; rw [e]; exact E1, fun a => ⟨fun ⟨j, z⟩ => ?_, fun z => ?_⟩, fun a ha ⟨j, z⟩ => ?_⟩
  · by_cases hj : j = i
    · subst hj
      rcases (a4 a).mp z with z | z
      · exact .inl ⟨j, by rw [put_same]; exact z⟩
      · exact .inr z
    · exact .inl ⟨j, by rw [put_ne hj]; exact z⟩
  · rcases z with ⟨j, z⟩ | z
    · by_cases hj : j = i
      · subst hj; rw [put_same] at z; exact ⟨j, (a4 a).mpr (.inl z)⟩
      · rw [put_ne hj] at z; exact ⟨j, z⟩
    · exact ⟨i, (a4 a).mpr (.inr z)⟩
  · by_cases hj : j = i
    · subst hj; rw [put_same] at z; exact a5 a ha z
    · rw [put_ne hj] at z
      exact hj (E.dis j i a z ((a4 a).mpr (.inr ha)))
/-- a cell is given into a hole -/
theorem EnvOk.give (E : EnvOk K F H σ G fps) {i : Nat} {π : List Nat} {v : V} {c : Cell} {fpc : List Addr} (h : atG G i π = some (.hl v)) (r : RepC K F H fpc v c) (n : ∀ a ∈ fpc, F a = none ∧ H a ≠ none) (d : ∀ a ∈ fpc, ¬ Owns fps a) :
    ∃ fps1, EnvOk K F H σ (updG G i π c) fps1 ∧ ∀ a, Owns fps1 a ↔ Owns fps a ∨ a ∈ fpc := by
  obtain ⟨c0, e, h0⟩ := atG_some h
  obtain ⟨u, hu, r0⟩ := E.ent i c0 e
  obtain ⟨fp1, a1, a2⟩ := r.give r0 h0 fun a ha z => d a ha ⟨i, z⟩
  have E1 := E.recell e hu a1 (fun a ha => ((a2 a).mp ha).elim (E.own i a) (n a)) (fun a ha j hj z => ((a2 a).mp ha).elim (fun y => hj (E.dis j i a z y)) fun y => d a y ⟨j, z⟩)
  refine ⟨put fps i fp1, by unfold updG; rw [e]; exact E1, fun a => ⟨fun ⟨j, z⟩ => ?_, fun z => ?_⟩⟩
  · by_cases hj : j = i
    · subst hj
      rw [put_same] at z
      exact ((a2 a).mp z).imp (fun y => ⟨j, y⟩) id
    · rw [put_ne hj] at z; exact .inl ⟨j, z⟩
  · rcases z with ⟨j, z⟩ | z
    · by_cases hj : j = i
      · subst hj; exact ⟨j, by rw [put_same]; exact (a2 a).mpr (.inl z)⟩
      · exact ⟨j, by rw [put_ne hj]; exact z⟩
    · exact ⟨i, by rw [put_same]; exact (a2 a).mpr (.inr z)⟩
/-- what is owned stands while the rest changes -/
theorem EnvOk.keep {F' H' : Hp} (E : EnvOk K F H σ G fps) (ex : Ex F F') (s : Sub F' H') (k : ∀ a, Owns fps a → ∀ o, H a = some o → H' a = some o) (n : ∀ a, Owns fps a → F' a = none) : EnvOk K F' H' σ G fps := by
  refine ⟨s, E.len, fun i c h => ?_, fun i a h => ⟨n a ⟨i, h⟩, ?_⟩, E.dis⟩
  · obtain ⟨v, h1, h2⟩ := E.ent i c h
    exact ⟨v, h1, RepC.mono ex (fun a ha o z => k a ⟨i, ha⟩ o z) h2⟩
  · have := (E.own i a h).2
    cases q : H a with
    | none => exact absurd q this
    | some o => rw [k a ⟨i, h⟩ o q]; simp
theorem EnvOk.ownF (E : EnvOk K F H σ G fps) {a : Addr} (h : Owns fps a) : F a = none ∧ H a ≠ none := E.own h.choose a h.choose_spec

/-! ### freezing -/
mutual
def Cell.data : Cell → Option Dt
  | .fz d => some d
  | .ol ds => some (.lst ds)
  | .od kvs => some (.dic kvs)
  | .odt kvs => some (.dit kvs)
  | .oc kvs => (dataK kvs).map .dic
  | .ob C fs => (dataF fs).map (.ins C)
  | .hl _ => none
  | .fl _ ds => some (.lst ds)
def dataF : List (Str × Cell) → Option (List (Str × Dt))
  | [] => some []
  | (k, c) :: fs => match c.data, dataF fs with
    | some d, some ds => some ((k, d) :: ds)
    | _, _ => none
def dataK : List (Key × Cell) → Option (List (Key × Dt))
  | [] => some []
  | (k, c) :: fs => match c.data, dataK fs with
    | some d, some ds => some ((k, d) :: ds)
    | _, _ => none
end
theorem repCK_len : ∀ {fp : List Addr} {vs : List (Key × V)} {kvs : List (Key × Cell)}, RepCK K F H fp vs kvs → vs.length = kvs.length
  | _, _, _, .nil => rfl
  | _, _, _, .cons _ _ rs _ => congrArg (· + 1) (repCK_len rs)
theorem repCF_len : ∀ {fp : List Addr} {vs : List (Str × V)} {kvs : List (Str × Cell)}, RepCF K F H fp vs kvs → vs.length = kvs.length
  | _, _, _, .nil => rfl
  | _, _, _, .cons _ rs _ => congrArg (· + 1) (repCF_len rs)
mutual
/-- in a heap that has all that is owned, frozen -/
theorem RepC.frozen {F' : Hp} (ex : Ex F F') : ∀ {fp : List Addr} {v : V} {c : Cell}, RepC K F H fp v c → (∀ a ∈ fp, F' a = H a) → ∀ {d : Dt}, c.data = some d → Rep K F' v d
  | _, _, _, .fz r, k, d, h => by simp only [Cell.data] at h; cases h; exact r.mono ex
  | _, _, _, .ol h1 l r, k, d, h => by simp only [Cell.data] at h; cases h; exact .lst (by rw [k _ (by simp)]; exact h1) l (r.mono ex)
  | _, _, _, .od h1 l r n, k, d, h => by simp only [Cell.data] at h; cases h; exact .dic (by rw [k _ (by simp)]; exact h1) l (r.mono ex) n
  | _, _, _, .odt h1 l r n, k, d, h => by simp only [Cell.data] at h; cases h; exact .dit (by rw [k _ (by simp)]; exact h1) l (r.mono ex) n
  | _, _, _, .oc h1 l r n nd, k, d, h => by
    simp only [Cell.data] at h
    rename_i kvs
    cases e : dataK kvs with
    | none => rw [e] at h; cases h
    | some ds =>
      rw [e] at h; cases h
      exact .dic (by rw [k _ (by simp)]; exact h1) l (RepCK.frozen ex r (fun a ha => k a (List.mem_cons_of_mem _ ha)) e) nd
  | _, _, _, .ob h1 r n, k, d, h => by
    simp only [Cell.data] at h
    rename_i fs
    cases e : dataF fs with
    | none => rw [e] at h; cases h
    | some ds =>
      rw [e] at h; cases h
      exact .ins (by rw [k _ (by simp)]; exact h1) (RepCF.frozen ex r (fun a ha => k a (List.mem_cons_of_mem _ ha)) e)
  | _, _, _, .hl, k, d, h => by simp [Cell.data] at h
  | _, _, _, .fl h1 l r, k, d, h => by simp only [Cell.data] at h; cases h; exact .lst (ex _ _ h1) l (r.mono ex)
theorem RepCF.frozen {F' : Hp} (ex : Ex F F') : ∀ {fp : List Addr} {vs : List (Str × V)} {fs : List (Str × Cell)}, RepCF K F H fp vs fs → (∀ a ∈ fp, F' a = H a) → ∀ {ds : List (Str × Dt)}, dataF fs = some ds → RepF K F' vs ds
  | _, _, _, .nil, k, d, h => by simp only [dataF] at h; cases h; exact .nil
  | _, _, _, .cons (c := c) (kvs := kvs) r rs _, k, d, h => by
    simp only [dataF] at h
    cases e : c.data with
    | none => rw [e] at h; cases h
    | some x =>
      cases e' : dataF kvs with
      | none => rw [e, e'] at h; cases h
      | some y =>
        rw [e, e'] at h; cases h
        exact .cons (RepC.frozen ex r (fun a ha => k a (List.mem_append_left _ ha)) e) (RepCF.frozen ex rs (fun a ha => k a (List.mem_append_right _ ha)) e')
theorem RepCK.frozen {F' : Hp} (ex : Ex F F') : ∀ {fp : List Addr} {vs : List (Key × V)} {fs : List (Key × Cell)}, RepCK K F H fp vs fs → (∀ a ∈ fp, F' a = H a) → ∀ {ds : List (Key × Dt)}, dataK fs = some ds → RepK K F' vs ds
  | _, _, _, .nil, k, d, h => by simp only [dataK] at h; cases h; exact .nil
  | _, _, _, .cons (c := c) (kvs := kvs) o r rs _, k, d, h => by
    simp only [dataK] at h
    cases e : c.data with
    | none => rw [e] at h; cases h
    | some x =>
      cases e' : dataK kvs with
      | none => rw [e, e'] at h; cases h
      | some y =>
        rw [e, e'] at h; cases h
        exact .cons o (RepC.frozen ex r (fun a ha => k a (List.mem_append_left _ ha)) e) (RepCK.frozen ex rs (fun a ha => k a (List.mem_append_right _ ha)) e')
end
open Classical in
/-- what is frozen, with some addresses more -/
noncomputable def frz (F H : Hp) (fp : List Addr) : Hp := fun a => if a ∈ fp then H a else F a
theorem frz_in {fp : List Addr} {a : Addr} (h : a ∈ fp) : frz F H fp a = H a := if_pos h
theorem frz_out {fp : List Addr} {a : Addr} (h : a ∉ fp) : frz F H fp a = F a := if_neg h
theorem frz_ex {fp : List Addr} (n : ∀ a ∈ fp, F a = none) : Ex F (frz F H fp) := fun a o h => by
  by_cases q : a ∈ fp
  · rw [n a q] at h; cases h
  · rw [frz_out q]; exact h
theorem frz_sub {fp : List Addr} (s : Sub F H) : Sub (frz F H fp) H := fun a o h => by
  by_cases q : a ∈ fp
  · rw [frz_in q] at h; exact .inl h
  · rw [frz_out q] at h; exact s a o h
end
end Vs

/-! Expressions over data. -/
namespace Vs
open PySem PySem.Spec L2
theorem len_app (s t : Str) : (s ++ t).length = s.length + t.length := by
  show (s.cps ++ t.cps).size = s.cps.size + t.cps.size
  exact Array.size_append
section
variable {I : Type} {X : I → Cx} {K : PySem.W.Frag} {G : Env}

theorem ea_cons {e : Expr} {es : List Expr} {d : Dt} {ds : List Dt} (h : EX X K G e d) (hr : EA X K G es ds)
    (hs : ∀ j, starEach (e :: es) (X j).env = (false, eval e (X j).env) :: starEach es (X j).env := by intro _; rfl) : EA X K G (e :: es) (d :: ds) := fun F H σ fps Q k q =>
  ⟨tCons (wpE X e) (wpA X es), fun j => pa_cons (pe_wp j) (pa_wp j) (hs j), h F H σ fps _ k fun F1 H1 v u1 r1 => hr F1 H1 σ fps _ (k.up u1) fun F2 H2 vs u2 r2 => q F2 H2 (v :: vs) (u1.trans u2) (.cons (r1.mono u2.fr) r2)⟩

/-- two parts, then an operator by values -/
theorem ex_op2 {op : Operator} {r : R2} {a b : Expr} {pos : Pos} {x y z : Dt} (ho : ∀ j, OpR (X j) (binaryOp op) r) (ha : EX X K G a x) (hb : EX X K G b y)
    (hr : ∀ F H v w (Q : VK), Sub F H → Rep K F v x → Rep K F w y → (∀ F' H' u, Up F H F' H' → Rep K F' u z → Q u H') → r v w H Q) : EX X K G (.BinOp a op b pos) z := fun F H σ fps Q k q =>
  ⟨tOp r (wpE X a) (wpE X b), fun j => pe_op (ho j) (pe_wp j) (pe_wp j), ha F H σ fps _ k fun F1 H1 v u1 r1 => hb F1 H1 σ fps _ (k.up u1) fun F2 H2 w u2 r2 =>
    hr F2 H2 v w Q u2.sb (r1.mono u2.fr) r2 fun F3 H3 u u3 r3 => q F3 H3 u ((u1.trans u2).trans u3) r3⟩
/-- an operator on ints -/
theorem ex_opI {op : Operator} {C : Int → Int → Prop} {g : Int → Int → Int} {a b : Expr} {pos : Pos} {i j : Int} (ho : ∀ k, OpR (X k) (binaryOp op) (rI C fun i j => .int (g i j))) (ha : EX X K G a (.int i)) (hb : EX X K G b (.int j)) (hc : C i j) :
    EX X K G (.BinOp a op b pos) (.int (g i j)) := ex_op2 ho ha hb fun F H v w Q s r1 r2 q => by
  cases r1; cases r2
  exact ⟨i, j, rfl, rfl, hc, q F H _ (Up.refl s) (.int _)⟩
theorem ex_opI0 {op : Operator} {g : Int → Int → Int} {a b : Expr} {pos : Pos} {i j : Int} (ho : ∀ k, OpR (X k) (binaryOp op) (rI0 fun i j => .int (g i j))) (ha : EX X K G a (.int i)) (hb : EX X K G b (.int j)) :
    EX X K G (.BinOp a op b pos) (.int (g i j)) := ex_op2 ho ha hb fun F H v w Q s r1 r2 q => by
  cases r1; cases r2
  exact ⟨i, j, rfl, rfl, q F H _ (Up.refl s) (.int _)⟩
theorem ex_add {a b : Expr} {pos : Pos} {i j : Int} (ha : EX X K G a (.int i)) (hb : EX X K G b (.int j)) : EX X K G (.BinOp a .Add b pos) (.int (i + j)) := ex_opI0 (g := fun i j => i + j) (fun _ => op_add) ha hb
theorem ex_sub {a b : Expr} {pos : Pos} {i j : Int} (ha : EX X K G a (.int i)) (hb : EX X K G b (.int j)) : EX X K G (.BinOp a .Sub b pos) (.int (i - j)) := ex_opI0 (g := fun i j => i - j) (fun _ => op_sub) ha hb
theorem ex_mul {a b : Expr} {pos : Pos} {i j : Int} (ha : EX X K G a (.int i)) (hb : EX X K G b (.int j)) (h : (-(2 ^ 64) < i ∧ i < 2 ^ 64) ∨ (-(2 ^ 64) < j ∧ j < 2 ^ 64)) : EX X K G (.BinOp a .Mult b pos) (.int (i * j)) := ex_opI (g := fun i j => i * j) (fun _ => op_mul) ha hb h
theorem ex_mod {a b : Expr} {pos : Pos} {i j : Int} (ha : EX X K G a (.int i)) (hb : EX X K G b (.int j)) (h : 0 < j) : EX X K G (.BinOp a .Mod b pos) (.int (i % j)) := ex_opI (g := fun i j => i % j) (fun _ => op_mod) ha hb h
theorem ex_fdiv {a b : Expr} {pos : Pos} {i j : Int} (ha : EX X K G a (.int i)) (hb : EX X K G b (.int j)) (h : 0 < j ∧ j < 1073741824) : EX X K G (.BinOp a .FloorDiv b pos) (.int (i / j)) := ex_opI (g := fun i j => i / j) (fun _ => op_fdiv) ha hb h
theorem ex_pow {a b : Expr} {pos : Pos} {i j : Int} (ha : EX X K G a (.int i)) (hb : EX X K G b (.int j)) (h : 0 ≤ j ∧ j ≤ 1000000 ∧ i.natAbs < 2 ^ 64) : EX X K G (.BinOp a .Pow b pos) (.int (i ^ j.toNat)) := ex_opI (g := fun i j => i ^ j.toNat) (fun _ => op_pow) ha hb h
theorem ex_cat {a b : Expr} {pos : Pos} {s t : Str} (ha : EX X K G a (.str s)) (hb : EX X K G b (.str t)) (h : s.length + t.length ≤ bigS) : EX X K G (.BinOp a .Add b pos) (.str (s ++ t)) := ex_op2 (fun _ => op_add_str) ha hb fun F H v w Q u r1 r2 q => by
  cases r1 with
  | str _ g1 => cases r2 with
    | str _ g2 => exact ⟨s, t, rfl, rfl, Nat.le_trans h (Nat.le_trans bigS_big big_line), q F H _ (Up.refl u) (.str _ (good_app g1 g2 h))⟩
theorem ex_neg {a : Expr} {pos : Pos} {i : Int} (ha : EX X K G a (.int i)) : EX X K G (.UnaryOp .USub a pos) (.int (-i)) := fun F H σ fps Q k q =>
  ⟨tUn _ (wpE X a), fun j => pe_un un_neg (pe_wp j), ha F H σ fps _ k fun F1 H1 v u1 r1 => by cases r1; exact ⟨i, rfl, q F1 H1 _ u1 (.int _)⟩⟩

/-! ### comparisons -/
/-- a comparison by values, as a value and as a test -/
theorem ex_cmp2 {op : CmpOp} {r : R2} {a b : Expr} {pos : Pos} {x y : Dt} {c : Bool} (ho : ∀ j, OpR (X j) (compareOp op) r) (ha : EX X K G a x) (hb : EX X K G b y) (hm : behindInMarks op b = false)
    (hr : ∀ F H v w (Q : VK), Sub F H → Rep K F v x → Rep K F w y → Q (.bl c) H → r v w H Q) : EX X K G (.Compare a [op] [b] pos) (.bl c) := fun F H σ fps Q k q =>
  ⟨tOp r (wpE X a) (wpE X b), fun j => pe_cmpR (ho j) (pe_wp j) (pe_wp j) hm, ha F H σ fps _ k fun F1 H1 v u1 r1 => hb F1 H1 σ fps _ (k.up u1) fun F2 H2 w u2 r2 =>
    hr F2 H2 v w Q u2.sb (r1.mono u2.fr) r2 (q F2 H2 _ (u1.trans u2) (.bl c))⟩
theorem eb_cmp2 {op : CmpOp} {r : R2} {a b : Expr} {pos : Pos} {x y : Dt} {c : Bool} (ho : ∀ j, OpR (X j) (compareOp op) r) (ha : EX X K G a x) (hb : EX X K G b y) (hm : behindInMarks op b = false)
    (hr : ∀ F H v w (Q : VK), Sub F H → Rep K F v x → Rep K F w y → Q (.bl c) H → r v w H Q) : EB X K G (.Compare a [op] [b] pos) c := fun F H σ fps Q k q =>
  ⟨tTest (tOp r (wpE X a) (wpE X b)), fun j => pt_cmpR (ho j) (pe_wp j) (pe_wp j) hm, ha F H σ fps _ k fun F1 H1 v u1 r1 => hb F1 H1 σ fps _ (k.up u1) fun F2 H2 w u2 r2 =>
    hr F2 H2 v w _ u2.sb (r1.mono u2.fr) r2 ⟨c, rfl, q F2 H2 (u1.trans u2)⟩⟩
/-- what a comparison says of two data -/
def Says (X : I → Cx) (K : PySem.W.Frag) (op : CmpOp) (x y : Dt) (c : Bool) : Prop :=
  ∃ r : R2, (∀ j, OpR (X j) (compareOp op) r) ∧ ∀ F H v w (Q : VK), Sub F H → Rep K F v x → Rep K F w y → Q (.bl c) H → r v w H Q
theorem ex_cmp {op : CmpOp} {a b : Expr} {pos : Pos} {x y : Dt} {c : Bool} (s : Says X K op x y c) (ha : EX X K G a x) (hb : EX X K G b y) (hm : behindInMarks op b = false := by rfl) : EX X K G (.Compare a [op] [b] pos) (.bl c) := by
  obtain ⟨r, ho, hr⟩ := s
  exact ex_cmp2 ho ha hb hm hr
theorem eb_cmp {op : CmpOp} {a b : Expr} {pos : Pos} {x y : Dt} {c : Bool} (s : Says X K op x y c) (ha : EX X K G a x) (hb : EX X K G b y) (hm : behindInMarks op b = false := by rfl) : EB X K G (.Compare a [op] [b] pos) c := by
  obtain ⟨r, ho, hr⟩ := s
  exact eb_cmp2 ho ha hb hm hr
theorem says_I {op : CmpOp} {g : Int → Int → Bool} {i j : Int} (ho : ∀ k, OpR (X k) (compareOp op) (rI0 fun i j => .bl (g i j))) : Says X K op (.int i) (.int j) (g i j) := ⟨_, ho, fun F H v w Q s r1 r2 q => by
  cases r1; cases r2
  exact ⟨i, j, rfl, rfl, q⟩⟩
theorem says_lt {i j : Int} : Says X K .Lt (.int i) (.int j) (decide (i < j)) := says_I (g := fun i j => decide (i < j)) fun _ => op_lt
theorem says_le {i j : Int} : Says X K .LtE (.int i) (.int j) (decide (i ≤ j)) := says_I (g := fun i j => decide (i ≤ j)) fun _ => op_le
theorem says_gt {i j : Int} : Says X K .Gt (.int i) (.int j) (decide (j < i)) := says_I (g := fun i j => decide (j < i)) fun _ => op_gt
theorem says_ge {i j : Int} : Says X K .GtE (.int i) (.int j) (decide (j ≤ i)) := says_I (g := fun i j => decide (j ≤ i)) fun _ => op_ge
theorem says_eqI {i j : Int} : Says X K .Eq (.int i) (.int j) (i == j) := ⟨_, fun _ => op_eq, fun F H v w Q s r1 r2 q => by
  cases r1; cases r2
  exact ⟨rfl, by rw [dec_int]; exact q⟩⟩
theorem says_neI {i j : Int} : Says X K .NotEq (.int i) (.int j) (!(i == j)) := ⟨_, fun _ => op_ne, fun F H v w Q s r1 r2 q => by
  cases r1; cases r2
  exact ⟨rfl, by rw [dec_int]; exact q⟩⟩
theorem says_eqS {i j : Str} : Says X K .Eq (.str i) (.str j) (i == j) := ⟨_, fun _ => op_eq, fun F H v w Q s r1 r2 q => by
  cases r1; cases r2
  exact ⟨rfl, by rw [dec_str]; exact q⟩⟩
theorem says_neS {i j : Str} : Says X K .NotEq (.str i) (.str j) (!(i == j)) := ⟨_, fun _ => op_ne, fun F H v w Q s r1 r2 q => by
  cases r1; cases r2
  exact ⟨rfl, by rw [dec_str]; exact q⟩⟩
theorem says_eqB {i j : Bool} : Says X K .Eq (.bl i) (.bl j) (i == j) := ⟨_, fun _ => op_eq, fun F H v w Q s r1 r2 q => by
  cases r1; cases r2
  exact ⟨rfl, by rw [dec_bl]; exact q⟩⟩
theorem says_neB {i j : Bool} : Says X K .NotEq (.bl i) (.bl j) (!(i == j)) := ⟨_, fun _ => op_ne, fun F H v w Q s r1 r2 q => by
  cases r1; cases r2
  exact ⟨rfl, by rw [dec_bl]; exact q⟩⟩
def Dt.isNon : Dt → Bool
  | .non => true
  | _ => false
theorem rep_non {F : Hp} {v : V} {d : Dt} (r : Rep K F v d) : decide (v = .non) = d.isNon := by cases r <;> rfl
theorem says_isN {d : Dt} : Says X K .Is d .non d.isNon := ⟨_, fun _ => op_isN, fun F H v w Q s r1 r2 q => by
  cases r2
  refine ⟨rfl, ?_⟩
  rw [rep_non r1]
  exact q⟩
theorem says_notN {d : Dt} : Says X K .IsNot d .non (!d.isNon) := ⟨_, fun _ => op_notN, fun F H v w Q s r1 r2 q => by
  cases r2
  refine ⟨rfl, ?_⟩
  rw [rep_non r1]
  exact q⟩
/-- a sign in a text -/
theorem says_inC {c : Nat} {s : Str} : Says X K .In (.str ⟨#[c]⟩) (.str s) (decide (c ∈ s.cps.toList)) := ⟨_, fun _ => op_in_sign, fun F H v w Q u r1 r2 q => by
  cases r1; cases r2
  exact ⟨c, s, rfl, rfl, q⟩⟩
theorem says_notInC {c : Nat} {s : Str} : Says X K .NotIn (.str ⟨#[c]⟩) (.str s) (!decide (c ∈ s.cps.toList)) := ⟨_, fun _ => op_notIn_sign, fun F H v w Q u r1 r2 q => by
  cases r1; cases r2
  exact ⟨c, s, rfl, rfl, q⟩⟩
/-- a text in a text -/
def inS (i j : Str) : Bool := !(Builtin.Str.occurrences j i 0 j.length 1).isEmpty
theorem says_inS {i j : Str} : Says X K .In (.str i) (.str j) (inS i j) := ⟨_, fun _ => op_in_str, fun F H v w Q u r1 r2 q => by
  cases r1; cases r2
  exact ⟨i, j, rfl, rfl, q⟩⟩
theorem says_notInS {i j : Str} : Says X K .NotIn (.str i) (.str j) (!inS i j) := ⟨_, fun _ => op_notin_str, fun F H v w Q u r1 r2 q => by
  cases r1; cases r2
  exact ⟨i, j, rfl, rfl, q⟩⟩

/-! ### data compared -/
mutual
def Dt.py : Dt → PyData
  | .non => .none
  | .bl b => .bool b
  | .int i => .int i
  | .str s => .str s
  | .lst xs => .list (Dt.pyL xs)
  | .tup xs => .tuple (Dt.pyL xs)
  | _ => .none
def Dt.pyL : List Dt → List PyData
  | [] => []
  | d :: ds => d.py :: Dt.pyL ds
end
mutual
/-- no dicts, no objects within -/
def Dt.flat : Dt → Bool
  | .non => true
  | .bl _ => true
  | .int _ => true
  | .str _ => true
  | .lst xs => Dt.flatL xs
  | .tup xs => Dt.flatL xs
  | _ => false
def Dt.flatL : List Dt → Bool
  | [] => true
  | d :: ds => d.flat && Dt.flatL ds
end
mutual
theorem Rep.dp {F H : Hp} (s : Sub F H) : ∀ {v : V} {d : Dt}, Rep K F v d → d.flat = true → Dp K H v d.py
  | _, _, .non, _ => .non
  | _, _, .bl b, _ => .bl b
  | _, _, .int i, _ => .int i
  | _, _, .str x _, _ => .str x
  | _, _, .lst h _ r, f => .lst (SqL.of (s.lst h)) (RepL.dp s r f)
  | _, _, .tup h _ r, f => .tup (SqT.of (s.tup h)) (RepL.dp s r f)
  | _, _, .scr _ _ _, f => nomatch f
  | _, _, .dic _ _ _ _, f => nomatch f
  | _, _, .dit _ _ _ _, f => nomatch f
  | _, _, .ins _ _, f => nomatch f
theorem RepL.dp {F H : Hp} (s : Sub F H) : ∀ {vs : List V} {ds : List Dt}, RepL K F vs ds → Dt.flatL ds = true → DpAll K H vs (Dt.pyL ds)
  | _, _, .nil, _ => .nil
  | _, _, .cons h r, f => .cons (Rep.dp s h (Bool.and_eq_true_iff.mp f).1) (RepL.dp s r (Bool.and_eq_true_iff.mp f).2)
end
mutual
theorem Rep.lay {F : Hp} : ∀ {v : V} {d : Dt}, Rep K F v d → d.flat = true → d.py.canLay0 = true
  | _, _, .non, _ => by simp [Dt.py, PyData.canLay0]
  | _, _, .bl b, _ => by simp [Dt.py, PyData.canLay0]
  | _, _, .int i, _ => by simp [Dt.py, PyData.canLay0]
  | _, _, .str x g, _ => by simp only [Dt.py, PyData.canLay0]; exact good_strOk g
  | _, _, .lst h _ r, f => by simp only [Dt.py, PyData.canLay0]; exact RepL.lay r f
  | _, _, .tup h _ r, f => by simp only [Dt.py, PyData.canLay0]; exact RepL.lay r f
  | _, _, .scr _ _ _, f => nomatch f
  | _, _, .dic _ _ _ _, f => nomatch f
  | _, _, .dit _ _ _ _, f => nomatch f
  | _, _, .ins _ _, f => nomatch f
theorem RepL.lay {F : Hp} : ∀ {vs : List V} {ds : List Dt}, RepL K F vs ds → Dt.flatL ds = true → PyData.canLayAll0 (Dt.pyL ds) = true
  | _, _, .nil, _ => by simp [Dt.pyL, PyData.canLayAll0]
  | _, _, .cons h r, f => by
    simp only [Dt.pyL, PyData.canLayAll0]
    exact Bool.and_eq_true_iff.mpr ⟨Rep.lay h (Bool.and_eq_true_iff.mp f).1, RepL.lay r (Bool.and_eq_true_iff.mp f).2⟩
end
/-- two data are compared: equal by c -/
structure EqD (x y : Dt) (c : Bool) : Prop where
  fx : x.flat = true
  fy : y.flat = true
  dx : x.py.depth ≤ 64
  dy : y.py.depth ≤ 64
  eq : PyData.eqv x.py y.py = c
theorem EqD.shx {F : Hp} {x y : Dt} {c : Bool} (e : EqD x y c) {v : V} (r : Rep K F v x) : SeqAt.shaped x.py = true := Bool.and_eq_true_iff.mpr ⟨r.lay e.fx, decide_eq_true e.dx⟩
theorem EqD.shy {F : Hp} {x y : Dt} {c : Bool} (e : EqD x y c) {v : V} (r : Rep K F v y) : SeqAt.shaped y.py = true := Bool.and_eq_true_iff.mpr ⟨r.lay e.fy, decide_eq_true e.dy⟩
theorem says_eqD {x y : Dt} {c : Bool} (hu : ∀ j, (X j).A.units + 64 < cLine) (hK : ∀ j, (X j).K = K) (e : EqD x y c) : Says X K .Eq x y c := ⟨rEqD K, fun j => hK j ▸ op_eqD (hu j), fun F H v w Q u r1 r2 q =>
  ⟨x.py, y.py, r1.dp u e.fx, r2.dp u e.fy, e.shx r1, e.shy r2, by rw [e.eq]; exact q⟩⟩
theorem says_neD {x y : Dt} {c : Bool} (hu : ∀ j, (X j).A.units + 64 < cLine) (hK : ∀ j, (X j).K = K) (e : EqD x y c) : Says X K .NotEq x y (!c) := ⟨rNeD K, fun j => hK j ▸ op_neD (hu j), fun F H v w Q u r1 r2 q =>
  ⟨x.py, y.py, r1.dp u e.fx, r2.dp u e.fy, e.shx r1, e.shy r2, by rw [e.eq]; exact q⟩⟩

/-! ### tests -/
theorem eb_val {e : Expr} {b : Bool} (h : EX X K G e (.bl b)) (he : ∀ j whole, isTrue e (X j).env whole = (do let v ← whole; standAt e.pos; holding [v] (truthy v)) := by intro _ _; rfl) : EB X K G e b := fun F H σ fps Q k q =>
  ⟨tB (wpE X e), fun j => pt_val (pe_wp j) (he j), h F H σ fps _ k fun F1 H1 v u r => by cases r; exact ⟨b, rfl, q F1 H1 u⟩⟩
theorem eb_not {e : Expr} {b : Bool} {pos : Pos} (h : EB X K G e b) : EB X K G (.UnaryOp .Not e pos) (!b) := fun F H σ fps Q k q =>
  ⟨tNot (wpT X e), fun j => pt_not (pt_wp j), h F H σ fps _ k fun F1 H1 u => q F1 H1 u⟩
theorem ebw_and1 {a : Expr} {b : Bool} {pos : Pos} (h : EB X K G a b) : EBW X K G (.BoolOp .And [a] pos) b := fun F H σ fps Q k q =>
  ⟨wpT X a, fun j => pw_and1 (pt_wp j), h F H σ fps _ k q⟩
theorem ebw_or1 {a : Expr} {b : Bool} {pos : Pos} (h : EB X K G a b) : EBW X K G (.BoolOp .Or [a] pos) b := fun F H σ fps Q k q =>
  ⟨wpT X a, fun j => pw_or1 (pt_wp j), h F H σ fps _ k q⟩
theorem ebw_and {a e : Expr} {rest : List Expr} {x y : Bool} {pos : Pos} (h : EB X K G a x) (hr : x = true → EBW X K G (.BoolOp .And (e :: rest) pos) y) : EBW X K G (.BoolOp .And (a :: e :: rest) pos) (x && y) := fun F H σ fps Q k q =>
  ⟨tAnd (wpT X a) (wpW X (.BoolOp .And (e :: rest) pos)), fun j => pw_and (pt_wp j) (pw_wp j), h F H σ fps _ k fun F1 H1 u => by
    cases x with
    | true =>
      show wpW X _ σ H1 Q
      exact hr rfl F1 H1 σ fps Q (k.up u) fun F2 H2 u2 => q F2 H2 (u.trans u2)
    | false =>
      show Q false H1
      exact q F1 H1 u⟩
theorem ebw_or {a e : Expr} {rest : List Expr} {x y : Bool} {pos : Pos} (h : EB X K G a x) (hr : x = false → EBW X K G (.BoolOp .Or (e :: rest) pos) y) : EBW X K G (.BoolOp .Or (a :: e :: rest) pos) (x || y) := fun F H σ fps Q k q =>
  ⟨tOr (wpT X a) (wpW X (.BoolOp .Or (e :: rest) pos)), fun j => pw_or (pt_wp j) (pw_wp j), h F H σ fps _ k fun F1 H1 u => by
    cases x with
    | true =>
      show Q true H1
      exact q F1 H1 u
    | false =>
      show wpW X _ σ H1 Q
      exact hr rfl F1 H1 σ fps Q (k.up u) fun F2 H2 u2 => q F2 H2 (u.trans u2)⟩
theorem eb_w {e : Expr} {b : Bool} (h : EBW X K G e b) : EB X K G e b := fun F H σ fps Q k q =>
  ⟨wpW X e, fun j => (pw_wp j).pt, h F H σ fps Q k q⟩
theorem ex_not {e : Expr} {b : Bool} {pos : Pos} (h : EX X K G e (.bl b)) : EX X K G (.UnaryOp .Not e pos) (.bl (!b)) := fun F H σ fps Q k q =>
  ⟨tNotV (wpE X e), fun j => pe_not (pe_wp j), h F H σ fps _ k fun F1 H1 v u r => by cases r; exact ⟨b, rfl, q F1 H1 _ u (.bl _)⟩⟩
theorem ex_one {a : Expr} {op} {d : Dt} {pos : Pos} (h : EX X K G a d) : EX X K G (.BoolOp op [a] pos) d := fun F H σ fps Q k q =>
  ⟨wpE X a, fun j => pe_one (pe_wp j), h F H σ fps _ k q⟩
theorem ex_and {a e : Expr} {rest : List Expr} {x y : Bool} {pos : Pos} (h : EX X K G a (.bl x)) (hr : x = true → EX X K G (.BoolOp .And (e :: rest) pos) (.bl y)) : EX X K G (.BoolOp .And (a :: e :: rest) pos) (.bl (x && y)) := fun F H σ fps Q k q =>
  ⟨tAndV (wpE X a) (wpE X (.BoolOp .And (e :: rest) pos)), fun j => pe_and (pe_wp j) (pe_wp j), h F H σ fps _ k fun F1 H1 v u r => by
    cases r
    refine ⟨x, rfl, ?_⟩
    cases x with
    | true =>
      show wpE X _ σ H1 Q
      exact hr rfl F1 H1 σ fps Q (k.up u) fun F2 H2 v u2 => q F2 H2 v (u.trans u2)
    | false =>
      show Q (.bl false) H1
      exact q F1 H1 _ u (.bl _)⟩
theorem ex_or {a e : Expr} {rest : List Expr} {x y : Bool} {pos : Pos} (h : EX X K G a (.bl x)) (hr : x = false → EX X K G (.BoolOp .Or (e :: rest) pos) (.bl y)) : EX X K G (.BoolOp .Or (a :: e :: rest) pos) (.bl (x || y)) := fun F H σ fps Q k q =>
  ⟨tOrV (wpE X a) (wpE X (.BoolOp .Or (e :: rest) pos)), fun j => pe_or (pe_wp j) (pe_wp j), h F H σ fps _ k fun F1 H1 v u r => by
    cases r
    refine ⟨x, rfl, ?_⟩
    cases x with
    | true =>
      show Q (.bl true) H1
      exact q F1 H1 _ u (.bl _)
    | false =>
      show wpE X _ σ H1 Q
      exact hr rfl F1 H1 σ fps Q (k.up u) fun F2 H2 v u2 => q F2 H2 v (u.trans u2)⟩
theorem EX.is {e : Expr} {d d' : Dt} (h : EX X K G e d) (q : d = d') : EX X K G e d' := q ▸ h
theorem EB.is {e : Expr} {d d' : Bool} (h : EB X K G e d) (q : d = d') : EB X K G e d' := q ▸ h

/-! ### new lists, tuples -/
theorem RepL.len {F : Hp} : ∀ {vs : List V} {ds : List Dt}, RepL K F vs ds → vs.length = ds.length
  | _, _, .nil => rfl
  | _, _, .cons _ r => congrArg (· + 1) (RepL.len r)
theorem RepL.get {F : Hp} : ∀ {vs : List V} {ds : List Dt}, RepL K F vs ds → ∀ {i : Nat} {d : Dt}, ds[i]? = some d → ∃ v, vs[i]? = some v ∧ Rep K F v d
  | _, _, .nil, i, d, h => by simp at h
  | _, _, .cons (v := v) h r, 0, d, e => by
    simp at e; subst e
    exact ⟨v, rfl, h⟩
  | _, _, .cons h r, i + 1, d, e => by
    obtain ⟨v, h1, h2⟩ := RepL.get r (i := i) (d := d) (by simpa using e)
    exact ⟨v, by simpa using h1, h2⟩
theorem RepL.get' {F : Hp} : ∀ {vs : List V} {ds : List Dt}, RepL K F vs ds → ∀ {i : Nat} {v : V}, vs[i]? = some v → ∃ d, ds[i]? = some d ∧ Rep K F v d
  | _, _, .nil, i, d, h => by simp at h
  | _, _, .cons (d := d) h r, 0, v, e => by
    simp at e; subst e
    exact ⟨d, rfl, h⟩
  | _, _, .cons h r, i + 1, d, e => by
    obtain ⟨v, h1, h2⟩ := RepL.get' r (i := i) (v := d) (by simpa using e)
    exact ⟨v, by simpa using h1, h2⟩
theorem RepL.append {F : Hp} : ∀ {vs ws : List V} {ds es : List Dt}, RepL K F vs ds → RepL K F ws es → RepL K F (vs ++ ws) (ds ++ es)
  | _, _, _, _, .nil, s => s
  | _, _, _, _, .cons h r, s => .cons h (RepL.append r s)
theorem RepL.take {F : Hp} : ∀ {vs : List V} {ds : List Dt} (n : Nat), RepL K F vs ds → RepL K F (vs.take n) (ds.take n)
  | _, _, 0, _ => .nil
  | _, _, _ + 1, .nil => .nil
  | _, _, n + 1, .cons h r => .cons h (RepL.take n r)
theorem RepL.drop {F : Hp} : ∀ {vs : List V} {ds : List Dt} (n : Nat), RepL K F vs ds → RepL K F (vs.drop n) (ds.drop n)
  | _, _, 0, r => r
  | _, _, _ + 1, .nil => .nil
  | _, _, n + 1, .cons _ r => RepL.drop n r
theorem en_lst {es : List Expr} {pos : Pos} {ds : List Dt} (h : EA X K G es ds) (hl : ds.length ≤ big := by decide) : EN X K G (.List es pos) (.ol ds) := fun F H σ fps Q k q =>
  ⟨tLst (wpA X es), fun j => pe_lst (pa_wp j), h F H σ fps _ k fun F1 H1 vs u r => ⟨by rw [r.len]; exact Nat.le_trans hl big_line, fun p hp => by
    have n0 : H p = none := u.hp.free hp
    refine q F1 (upd H1 p (.lst vs)) (.ref p) [p] (u.trans (Up.layH u.sb hp)) (.ol upd_same (by rw [r.len]; exact hl) r) fun a ha => ?_
    obtain rfl : a = p := by simpa using ha
    exact ⟨n0, u.sb.none hp, by rw [upd_same]; simp⟩⟩⟩
theorem ex_tup {es : List Expr} {x1} {pos : Pos} {ds : List Dt} (h : EA X K G es ds) (hl : ds.length ≤ big := by decide) : EX X K G (.Tuple es x1 pos) (.tup ds) := fun F H σ fps Q k q =>
  ⟨tTup (wpA X es), fun j => pe_tup (pa_wp j), h F H σ fps _ k fun F1 H1 vs u r => ⟨by rw [r.len]; exact Nat.le_trans hl big_line, fun p hp =>
    q (upd F1 p (.tup vs)) (upd H1 p (.tup vs)) (.ref p) (u.trans (Up.lay u.sb hp)) (.tup upd_same (by rw [r.len]; exact hl) (r.mono (Ex.new (u.sb.none hp))))⟩⟩
/-- a new list is frozen -/
theorem EN.fz {e : Expr} {ds : List Dt} (h : EN X K G e (.ol ds)) : EX X K G e (.lst ds) := fun F H σ fps Q k q =>
  h F H σ fps Q k fun F1 H1 v fp u r n => by
    obtain ⟨p, vs, rfl, rfl, h1, l, r⟩ := r.ol_inv
    obtain ⟨n1, n2, n3⟩ := n p (by simp)
    refine q (upd F1 p (.lst vs)) H1 (.ref p) ⟨u.fr.trans (Ex.new n2), u.hp, fun a z z' => ?_, fun a o z => ?_⟩ (.lst upd_same l (r.mono (Ex.new n2)))
    · have hne : a ≠ p := fun e => by subst e; exact z' n1
      rw [upd_ne hne]
      exact u.nw a z z'
    · by_cases e : a = p
      · subst e
        rw [upd_same] at z; cases z
        exact .inl h1
      · rw [upd_ne e] at z
        exact u.sb a o z
theorem EN.fzd {e : Expr} {ds : List (Key × Dt)} (h : EN X K G e (.od ds)) : EX X K G e (.dic ds) := fun F H σ fps Q k q =>
  h F H σ fps Q k fun F1 H1 v fp u r n => by
    obtain ⟨p, vs, rfl, rfl, h1, l, r, nd⟩ := r.od_inv
    obtain ⟨n1, n2, n3⟩ := n p (by simp)
    refine q (upd F1 p (.dK vs)) H1 (.ref p) ⟨u.fr.trans (Ex.new n2), u.hp, fun a z z' => ?_, fun a o z => ?_⟩ (.dic upd_same l (r.mono (Ex.new n2)) nd)
    · have hne : a ≠ p := fun e => by subst e; exact z' n1
      rw [upd_ne hne]
      exact u.nw a z z'
    · by_cases e : a = p
      · subst e
        rw [upd_same] at z; cases z
        exact .inl h1
      · rw [upd_ne e] at z
        exact u.sb a o z
theorem EX.en {e : Expr} {d : Dt} (h : EX X K G e d) : EN X K G e (.fz d) := fun F H σ fps Q k q =>
  h F H σ fps Q k fun F1 H1 v u r => q F1 H1 v [] u (.fz r) fun a ha => by simp at ha

/-! ### what is seen: a list or tuple, frozen or own -/
/-- e gives a list (a tuple) of these, own or frozen -/
def ES (X : I → Cx) (K : PySem.W.Frag) (G : Env) (e : Expr) (tu : Bool) (ds : List Dt) : Prop :=
  ∀ F H σ fps (Q : VK), EnvOk K F H σ G fps → (∀ F' H' p vs, Up F H F' H' → (if tu then SqT K H' p vs else SqL K H' p vs) → vs.length ≤ big → RepL K F' vs ds → Q (.ref p) H') → wpE X e σ H Q
theorem EX.esL {e : Expr} {ds : List Dt} (h : EX X K G e (.lst ds)) : ES X K G e false ds := fun F H σ fps Q k q =>
  h F H σ fps Q k fun F1 H1 v u r => by
    cases r with
    | lst h1 l r => exact q F1 H1 _ _ u (SqL.of (u.sb.lst h1)) l r
theorem EX.esT {e : Expr} {ds : List Dt} (h : EX X K G e (.tup ds)) : ES X K G e true ds := fun F H σ fps Q k q =>
  h F H σ fps Q k fun F1 H1 v u r => by
    cases r with
    | tup h1 l r => exact q F1 H1 _ _ u (SqT.of (u.sb.tup h1)) l r
theorem EX.esS {e : Expr} {ds : List Dt} (h : EX X K G e (.scr ds)) : ES X K G e false ds := fun F H σ fps Q k q =>
  h F H σ fps Q k fun F1 H1 v u r => by
    cases r with
    | scr h1 l r => exact q F1 H1 _ _ u (u.sb.sql h1) l r
theorem EN.es {e : Expr} {ds : List Dt} (h : EN X K G e (.ol ds)) : ES X K G e false ds := fun F H σ fps Q k q =>
  h F H σ fps Q k fun F1 H1 v fp u r n => by
    obtain ⟨p, vs, rfl, rfl, h1, l, r⟩ := r.ol_inv
    exact q F1 H1 p vs u (SqL.of h1) l r
/-- an own list by its name -/
theorem es_var {i : Nat} {x : Str} {pos : Pos} {ds : List Dt} (hg : G[i]? = some (some (.ol ds))) (hN : ∀ j, (X j).N[i]? = some x) (hv : ∀ j, Vis (X j).env.scope x)
    (hd : (x == ("__debug__" : Str)) = false := by decide) (hcd : (x == ("__classdict__" : Str)) = false := by decide) : ES X K G (.Name x pos) false ds := fun F H σ fps Q e q => by
  obtain ⟨v, h1, r0⟩ := e.ent i _ hg
  obtain ⟨p, vs, rfl, _, h2, l, r⟩ := r0.ol_inv
  exact ⟨tVar i, fun j => pe_var (hN j) (hv j) hd hcd, _, h1, q F H p vs (Up.refl e.sub) (SqL.of h2) l r⟩

/-! ### len, items -/
theorem ex_lenS {e : Expr} {p pos : Pos} {s : Str} (h : EX X K G e (.str s)) (hg : ∀ j, Gl (X j) "len") (hm : ∀ j, (X j).mg "len" = none)
    (he : ∀ j, starEach [e] (X j).env = [(false, eval e (X j).env)] := by intro _; rfl) : EX X K G (.Call (.Name "len" p) [e] [] pos) (.int s.length) := fun F H σ fps Q k q =>
  ⟨tCB (fun xs H Q => ∃ x, xs = [V.str x] ∧ x.length ≤ sizeLine ∧ Q (.int x.length) H) (tCons (wpE X e) tNil), fun j => pe_callB call_len_str (hg j) (hm j) PySem.boot_len (pa_cons (pe_wp j) pa_nil (he j)) (by decide) (by decide) (he j) rfl, h F H σ fps _ k fun F1 H1 v u r => by
    cases r with
    | str _ l => exact ⟨s, rfl, good_line l, q F1 H1 _ u (.int _)⟩⟩
end
section
variable {I : Type} {X : I → Cx} {K : PySem.W.Frag} {G : Env}
theorem ex_len {e : Expr} {p pos : Pos} {tu : Bool} {ds : List Dt} (hK : ∀ j, (X j).K = K) (h : ES X K G e tu ds) (hg : ∀ j, Gl (X j) "len") (hm : ∀ j, (X j).mg "len" = none)
    (he : ∀ j, starEach [e] (X j).env = [(false, eval e (X j).env)] := by intro _; rfl) : EX X K G (.Call (.Name "len" p) [e] [] pos) (.int ds.length) := fun F H σ fps Q k q =>
  ⟨tCB (fun xs H Q => ∃ x n, xs = [x] ∧ LenV K x H n ∧ Q (.int n) H) (tCons (wpE X e) tNil), fun j => hK j ▸ pe_callB call_len (hg j) (hm j) PySem.boot_len (pa_cons (pe_wp j) pa_nil (he j)) (by decide) (by decide) (he j) rfl, h F H σ fps _ k fun F1 H1 p vs u r l rl => by
    refine ⟨_, ds.length, rfl, ?_, q F1 H1 _ u (.int _)⟩
    cases tu with
    | true => exact .inr ⟨vs, r, rl.len.symm⟩
    | false => exact .inl ⟨vs, r, rl.len.symm⟩⟩
theorem ex_ix {a b : Expr} {pos : Pos} {tu : Bool} {ds : List Dt} {i : Int} {d : Dt} (hK : ∀ j, (X j).K = K) (ha : ES X K G a tu ds) (hb : EX X K G b (.int i)) (hi : atI ds i = some d) (hs : PlainIx b := by exact fun _ _ => rfl) : EX X K G (.Subscript a b pos) d := fun F H σ fps Q k q =>
  ⟨tOp (fun x y H Q => rIxL K x y H Q ∨ rIxT K x y H Q) (wpE X a) (wpE X b), fun j => by
    have h1 : IxR (X j) (rIxL K) := hK j ▸ ix_list
    have h2 : IxR (X j) (rIxT K) := hK j ▸ ix_tup
    exact pe_ix (fun v s pins st σ H x y vv uu Q I r1 r2 h w => h.elim (fun h => h1 v s pins st σ H x y vv uu Q I r1 r2 h w) fun h => h2 v s pins st σ H x y vv uu Q I r1 r2 h w) (pe_wp j) (pe_wp j) hs,
   ha F H σ fps _ k fun F1 H1 p vs u r l rl => hb F1 H1 σ fps _ (k.up u) fun F2 H2 w u2 r2 => by
    cases r2
    have hv : ∃ v, atI vs i = some v ∧ Rep K F1 v d := by
      unfold atI at hi ⊢
      rw [rl.len]
      cases e : ixN ds.length i with
      | none => rw [e] at hi; cases hi
      | some j =>
        rw [e] at hi
        exact rl.get (show ds[j]? = some d from hi)
    obtain ⟨v, h1, h2⟩ := hv
    cases tu with
    | true => exact .inr ⟨p, vs, i, v, rfl, rfl, u2.hp |> fun e => Ex.sqt e r, h1, q F2 H2 v (u.trans u2) (h2.mono u2.fr)⟩
    | false => exact .inl ⟨p, vs, i, v, rfl, rfl, u2.hp |> fun e => Ex.sql e r, h1, q F2 H2 v (u.trans u2) (h2.mono u2.fr)⟩⟩
/-- the sign at a place -/
theorem ex_ixS {a b : Expr} {pos : Pos} {s : Str} {i : Int} {c : Nat} (ha : EX X K G a (.str s)) (hb : EX X K G b (.int i)) (hi : atI s.cps.toList i = some c) (hs : PlainIx b := by exact fun _ _ => rfl) : EX X K G (.Subscript a b pos) (.str ⟨#[c]⟩) := fun F H σ fps Q k q =>
  ⟨tOp rIxS (wpE X a) (wpE X b), fun j => pe_ix ix_str (pe_wp j) (pe_wp j) hs, ha F H σ fps _ k fun F1 H1 v u r => hb F1 H1 σ fps _ (k.up u) fun F2 H2 w u2 r2 => by
    cases r2
    cases r with
    | str _ l =>
      have hm : c ∈ s.cps.toList := by
        unfold atI at hi
        cases e : ixN s.cps.toList.length i with
        | none => rw [e] at hi; cases hi
        | some j => rw [e] at hi; exact List.mem_of_getElem? (show s.cps.toList[j]? = some c from hi)
      exact ⟨s, i, c, rfl, rfl, good_line l, hi, q F2 H2 _ (u.trans u2) (.str _ (good_one ((good_iff.mp l).2 c hm)))⟩⟩
end
end Vs

/-! Statements over data: outcomes, loops, calls, a def's promise. -/
namespace Vs
open PySem PySem.Spec L2

structure Xc where
  cls : Str
  fs : List (Str × Dt)
inductive Out where
  | nx (G : Env) | bk (G : Env) | ct (G : Env)
  | rt (c : Cell) (s : Option Env)
  | xc (x : Xc) (G : Env)

/-- the names that keep their values to the end -/
structure Sv where
  ks : List Nat
  vl : Nat → V
def memN : List Nat → Nat → Bool
  | [], _ => false
  | a :: l, i => Nat.beq a i || memN l i
def memN_iff {l : List Nat} {i : Nat} : memN l i = true ↔ i ∈ l := by
  induction l with
  | nil => simp [memN]
  | cons a l ih =>
    unfold memN
    rw [Bool.or_eq_true, ih, List.mem_cons]
    constructor
    · rintro (h | h)
      · exact .inl (Nat.eq_of_beq_eq_true h).symm
      · exact .inr h
    · rintro (h | h)
      · exact .inl (by rw [h]; exact Nat.beq_refl _)
      · exact .inr h
def noneIn (l : List Nat) : List Nat → Bool
  | [] => true
  | i :: js => !memN l i && noneIn l js
theorem noneIn_ok {l : List Nat} : ∀ {js : List Nat}, noneIn l js = true → ∀ i, i ∈ l → i ∉ js
  | [], _, i, _, z => nomatch z
  | j :: js, h, i, hi, z => by
    unfold noneIn at h
    rw [Bool.and_eq_true] at h
    rcases List.mem_cons.mp z with e | z
    · subst e
      rw [memN_iff.mpr hi] at h
      exact absurd h.1 (by decide)
    · exact noneIn_ok h.2 i hi z
abbrev sv0 : Sv := ⟨[], fun _ => .non⟩
def Slf (sv : Sv) (σ : L2.St) : Prop := ∀ i, i ∈ sv.ks → σ[i]? = some (some (sv.vl i))
def XRep (K : PySem.W.Frag) (F : Hp) (d : Option Addr) (fs : List (Str × Dt)) : Prop := (fs = [] ∧ d = none) ∨ ∃ dx vs, d = some dx ∧ F dx = some (.xd vs) ∧ RepF K F vs fs

def Fin (K : PySem.W.Frag) (W : WX) (sv : Sv) (D : Ends) (F H : Hp) (fps : Nat → List Addr) : Out → Prop
  | .nx G => ∀ F' H' σ' fps', EnvOk K F' H' σ' G fps' → Slf sv σ' → Le (Owns fps) F H F' H' (Owns fps') → D.nx σ' H'
  | .bk G => ∀ F' H' σ' fps', EnvOk K F' H' σ' G fps' → Slf sv σ' → Le (Owns fps) F H F' H' (Owns fps') → D.bk σ' H'
  | .ct G => ∀ F' H' σ' fps', EnvOk K F' H' σ' G fps' → Slf sv σ' → Le (Owns fps) F H F' H' (Owns fps') → D.ct σ' H'
  | .rt c none => ∀ F' H' v fp, Sub F' H' → Le (Owns fps) F H F' H' (fun a => a ∈ fp) → RepC K F' H' fp v c → (∀ a ∈ fp, F' a = none ∧ H' a ≠ none) → D.rt v H'
  | .rt c (some G) => ∀ F' H' σ' fps' v fp, EnvOk K F' H' σ' G fps' → Slf sv σ' → Le (Owns fps) F H F' H' (fun a => a ∈ fp ∨ Owns fps' a) → RepC K F' H' fp v c → (∀ a ∈ fp, F' a = none ∧ H' a ≠ none ∧ ¬ Owns fps' a) → D.rt v H'
  | .xc x G => ∀ F' H' σ' fps' d, EnvOk K F' H' σ' G fps' → Slf sv σ' → Le (Owns fps) F H F' H' (Owns fps') → XRep K F' d x.fs → W (.ref (He.ga K x.cls)) d σ' H'
theorem Fin.le {K : PySem.W.Frag} {W : WX} {sv : Sv} {D : Ends} {F H F1 H1 : Hp} {fps fps1 : Nat → List Addr} : ∀ {o : Out}, Fin K W sv D F H fps o → Le (Owns fps) F H F1 H1 (Owns fps1) → Fin K W sv D F1 H1 fps1 o
  | .nx _, h, l => fun F' H' σ' fps' e s l' => h F' H' σ' fps' e s (l.trans l')
  | .bk _, h, l => fun F' H' σ' fps' e s l' => h F' H' σ' fps' e s (l.trans l')
  | .ct _, h, l => fun F' H' σ' fps' e s l' => h F' H' σ' fps' e s (l.trans l')
  | .rt _ none, h, l => fun F' H' v fp s l' r n => h F' H' v fp s (l.trans l') r n
  | .rt _ (some _), h, l => fun F' H' σ' fps' v fp e s l' r n => h F' H' σ' fps' v fp e s (l.trans l') r n
  | .xc _ _, h, l => fun F' H' σ' fps' d e s l' r => h F' H' σ' fps' d e s (l.trans l') r

/-- ss from G ends as o -/
def Run (X : Cx) (K : PySem.W.Frag) (W : WX) (sv : Sv) (ss : List Stmt) (G : Env) (o : Out) : Prop :=
  ∀ F H σ fps (D : Ends), EnvOk K F H σ G fps → Slf sv σ → Fin K W sv D F H fps o → wpSs X ss D σ H

abbrev one (X : Cx) : Unit → Cx := fun _ => X
theorem pe_w1 {X : Cx} {e : Expr} : PE X e (wpE (one X) e) := pe_wp (X := one X) ()
theorem pt_w1 {X : Cx} {e : Expr} : PT X e (wpT (one X) e) := pt_wp (X := one X) ()
theorem pa_w1 {X : Cx} {es : List Expr} : PA X es (wpA (one X) es) := pa_wp (X := one X) ()

/-! ### a name gets a cell -/
theorem EnvOk.set {K : PySem.W.Frag} {F H : Hp} {σ : L2.St} {G : Env} {fps : Nat → List Addr} {i : Nat} {v : V} {fp : List Addr} {c : Cell} (e : EnvOk K F H σ G fps) (hi : i < G.length) (r : RepC K F H fp v c) (n : ∀ a ∈ fp, F a = none ∧ H a ≠ none) (d : ∀ a ∈ fp, ∀ j, j ≠ i → a ∉ fps j) :
    EnvOk K F H (σ.set i (some v)) (G.set i (some c)) (put fps i fp) := by
  refine ⟨e.sub, by rw [List.length_set, List.length_set, e.len], fun j c' h => ?_, fun j a h => ?_, fun j k a h h' => ?_⟩
  · by_cases hj : j = i
    · subst hj
      rw [List.getElem?_set_self hi] at h
      cases h
      refine ⟨v, ?_, ?_⟩
      · rw [List.getElem?_set_self (by rw [e.len]; exact hi)]
      · rw [put_same]; exact r
    · rw [List.getElem?_set_ne (fun z => hj z.symm)] at h
      obtain ⟨w, h1, h2⟩ := e.ent j c' h
      exact ⟨w, by rw [List.getElem?_set_ne (fun z => hj z.symm)]; exact h1, by rw [put_ne hj]; exact h2⟩
  · by_cases hj : j = i
    · subst hj
      rw [put_same] at h
      exact n a h
    · rw [put_ne hj] at h
      exact e.own j a h
  · by_cases hj : j = i
    · subst hj
      rw [put_same] at h
      by_cases hk : k = j
      · exact hk.symm
      · rw [put_ne hk] at h'
        exact absurd h' (d a h k hk)
    · rw [put_ne hj] at h
      by_cases hk : k = i
      · subst hk
        rw [put_same] at h'
        exact absurd h (d a h' j hj)
      · rw [put_ne hk] at h'
        exact e.dis j k a h h'
theorem owns_put {fps : Nat → List Addr} {i : Nat} {fp : List Addr} {a : Addr} (h : Owns (put fps i fp) a) : a ∈ fp ∨ Owns fps a := by
  obtain ⟨j, h⟩ := h
  by_cases hj : j = i
  · subst hj; rw [put_same] at h; exact .inl h
  · rw [put_ne hj] at h; exact .inr ⟨j, h⟩
theorem Slf.set {sv : Sv} {σ : L2.St} {i : Nat} {o : Option V} (s : Slf sv σ) (h : memN sv.ks i = false) : Slf sv (σ.set i o) := fun j e => by
  have hne : i ≠ j := fun z => by subst z; rw [memN_iff.mpr e] at h; cases h
  rw [List.getElem?_set_ne hne]; exact s j e
/-- what follows an up-step and a name's new cell -/
theorem Up.leSet {F H F1 H1 : Hp} {fps : Nat → List Addr} {i : Nat} {fp : List Addr} (u : Up F H F1 H1) (n : ∀ a ∈ fp, H a = none) : Le (Owns fps) F H F1 H1 (Owns (put fps i fp)) :=
  ⟨u.fr, fun a o _ q => u.hp a o q, fun a _ h h' => u.nw a h h', fun a h => (owns_put h).elim (fun z => .inr (n a z)) .inl⟩

section
variable {X : Cx} {K : PySem.W.Frag} {W : WX} {sv : Sv} {G : Env} {rest : List Stmt} {o : Out} {pos : Pos}
theorem run_asgN {i : Nat} {x : Str} {e : Expr} {c : Cell} {pos' : Pos} (h : EN (one X) K G e c) (hN : X.N.Nodup) (hi : X.N[i]? = some x) (hx : Loc X.env.scope x) (hl : i < G.length) (hv : memN sv.ks i = false) (k : Run X K W sv rest (G.set i (some c)) o)
    (hs : swapsWith e (some (.Name x pos')) pos.line X.env = pure false := by rfl) (hf : X.fn x = true ∨ X.env.scope.names.lookup x = some .local := by first | exact .inl rfl | exact .inr rfl | assumption) :
    Run X K W sv (.Assign [.Name x pos'] e pos :: rest) G o := fun F H σ fps D E s q =>
  ⟨tSeq (tAsg (wpE (one X) e) (gName i)) (wpSs X rest), pss_cons (ps_set hN hi hx pe_w1 hs hf) pss_wp, h F H σ fps _ E fun F1 H1 v fp u r n => by
    have E1 : EnvOk K F1 H1 (σ.set i (some v)) (G.set i (some c)) (put fps i fp) := (E.up u).set hl r (fun a ha => ⟨(n a ha).2.1, (n a ha).2.2⟩) fun a ha j _ z => by
      have := (E.own j a z).2
      exact this (n a ha).1
    exact k F1 H1 _ _ D E1 (s.set hv) (q.le (u.leSet fun a ha => (n a ha).1))⟩
theorem run_asg {i : Nat} {x : Str} {e : Expr} {d : Dt} {pos' : Pos} (h : EX (one X) K G e d) (hN : X.N.Nodup) (hi : X.N[i]? = some x) (hx : Loc X.env.scope x) (hl : i < G.length) (hv : memN sv.ks i = false) (k : Run X K W sv rest (G.set i (some (.fz d))) o)
    (hs : swapsWith e (some (.Name x pos')) pos.line X.env = pure false := by rfl) (hf : X.fn x = true ∨ X.env.scope.names.lookup x = some .local := by first | exact .inl rfl | exact .inr rfl | assumption) :
    Run X K W sv (.Assign [.Name x pos'] e pos :: rest) G o := run_asgN h.en hN hi hx hl hv k hs hf
theorem run_retN {e : Expr} {c : Cell} (h : EN (one X) K G e c) : Run X K W sv (.Return (some e) pos :: rest) G (.rt c none) := fun F H σ fps D E s q =>
  ⟨tSeq (tRet (wpE (one X) e)) tNever, pss_cons (ps_ret pe_w1) pss_never, h F H σ fps _ E fun F1 H1 v fp u r n =>
    q F1 H1 v fp u.sb ⟨u.fr, fun a o _ z => u.hp a o z, fun a _ z z' => u.nw a z z', fun a z => .inr (n a z).1⟩ r fun a ha => ⟨(n a ha).2.1, (n a ha).2.2⟩⟩
theorem run_ret {e : Expr} {d : Dt} (h : EX (one X) K G e d) : Run X K W sv (.Return (some e) pos :: rest) G (.rt (.fz d) none) := run_retN h.en
theorem run_ret0 : Run X K W sv (.Return none pos :: rest) G (.rt (.fz .non) none) := fun F H σ fps D E s q =>
  ⟨tSeq tRetN tNever, pss_cons ps_retN pss_never, q F H .non [] E.sub ⟨Ex.refl F, fun a o _ z => z, fun a _ z z' => z, fun a z => by simp at z⟩ (.fz .non) fun a ha => by simp at ha⟩
/-- an own list is returned -/
theorem run_retV {i : Nat} {x : Str} {c : Cell} {pos' : Pos} (hg : G[i]? = some (some c)) (hN : X.N[i]? = some x) (hv : Vis X.env.scope x)
    (hd : (x == ("__debug__" : Str)) = false := by decide) (hcd : (x == ("__classdict__" : Str)) = false := by decide) : Run X K W sv (.Return (some (.Name x pos')) pos :: rest) G (.rt c none) := fun F H σ fps D E s q => by
  obtain ⟨v, h1, h2⟩ := E.ent i _ hg
  exact ⟨tSeq (tRet (tVar i)) tNever, pss_cons (ps_ret (pe_var hN hv hd hcd)) pss_never, v, h1, q F H v (fps i) E.sub ⟨Ex.refl F, fun a o _ z => z, fun a _ z z' => z, fun a z => .inl ⟨i, z⟩⟩ h2 fun a ha => E.own i a ha⟩
theorem run_drop {e : Expr} {d : Dt} (h : EX (one X) K G e d) (k : Run X K W sv rest G o) (hs : swapsWith e none pos.line X.env = pure false := by rfl) : Run X K W sv (.Expr e pos :: rest) G o := fun F H σ fps D E s q =>
  ⟨tSeq (tDrop (wpE (one X) e)) (wpSs X rest), pss_cons (ps_expr pe_w1 hs) pss_wp, h F H σ fps _ E fun F1 H1 v u r => k F1 H1 σ fps D (E.up u) s (q.le u.le)⟩
theorem run_pass (k : Run X K W sv rest G o) : Run X K W sv (.Pass pos :: rest) G o := fun F H σ fps D E s q =>
  ⟨tSeq tNext (wpSs X rest), pss_cons ps_pass pss_wp, k F H σ fps D E s q⟩
theorem run_doc {x j p} (k : Run X K W sv rest G o) : Run X K W sv (.Expr (.Constant (.str x) j p) pos :: rest) G o := fun F H σ fps D E s q =>
  ⟨tSeq tNext (wpSs X rest), pss_cons ps_doc pss_wp, k F H σ fps D E s q⟩
theorem run_break : Run X K W sv (.Break pos :: rest) G (.bk G) := fun F H σ fps D E s q =>
  ⟨tSeq tBreak tNever, pss_cons ps_break pss_never, q F H σ fps E s Le.refl⟩
theorem run_cont : Run X K W sv (.Continue pos :: rest) G (.ct G) := fun F H σ fps D E s q =>
  ⟨tSeq tCont tNever, pss_cons ps_continue pss_never, q F H σ fps E s Le.refl⟩

/-! ### what a block's end forgets -/
inductive Weak : Env → Env → Prop
  | nil : Weak [] []
  | keep {c : Option Cell} {G G' : Env} : Weak G G' → Weak (c :: G) (c :: G')
  | drop {c : Option Cell} {G G' : Env} : Weak G G' → Weak (c :: G) (none :: G')
theorem Weak.len : ∀ {G G' : Env}, Weak G G' → G.length = G'.length
  | _, _, .nil => rfl
  | _, _, .keep h => congrArg (· + 1) h.len
  | _, _, .drop h => congrArg (· + 1) h.len
theorem Weak.get : ∀ {G G' : Env}, Weak G G' → ∀ {i : Nat} {c : Cell}, G'[i]? = some (some c) → G[i]? = some (some c)
  | _, _, .nil, i, c, h => h
  | _, _, .keep w, 0, c, h => by simpa using h
  | _, _, .drop w, 0, c, h => by simp at h
  | _, _, .keep w, i + 1, c, h => by
    have := w.get (i := i) (c := c) (by simpa using h)
    simpa using this
  | _, _, .drop w, i + 1, c, h => by
    have := w.get (i := i) (c := c) (by simpa using h)
    simpa using this
theorem Weak.refl : ∀ G : Env, Weak G G
  | [] => .nil
  | _ :: G => .keep (Weak.refl G)
theorem Weak.ok {F H : Hp} {σ : L2.St} {G G' : Env} {fps : Nat → List Addr} (w : Weak G G') (e : EnvOk K F H σ G fps) : EnvOk K F H σ G' fps :=
  ⟨e.sub, by rw [e.len, w.len], fun i c h => e.ent i c (w.get h), e.own, e.dis⟩
theorem run_end {G' : Env} (w : Weak G G') : Run X K W sv [] G (.nx G') := fun F H σ fps D E s q =>
  ⟨tNext, pss_nil, q F H σ fps (w.ok E) s Le.refl⟩
theorem run_weak {ss : List Stmt} {G' : Env} (w : Weak G G') (k : Run X K W sv ss G' o) : Run X K W sv ss G o := fun F H σ fps D E s q => k F H σ fps D (w.ok E) s q
theorem run_is {ss : List Stmt} {o' : Out} (k : Run X K W sv ss G o) (e : o = o') : Run X K W sv ss G o' := e ▸ k
theorem run_contW {G' : Env} (w : Weak G G') : Run X K W sv (.Continue pos :: rest) G (.ct G') := fun F H σ fps D E s q =>
  ⟨tSeq tCont tNever, pss_cons ps_continue pss_never, q F H σ fps (w.ok E) s Le.refl⟩
theorem run_breakW {G' : Env} (w : Weak G G') : Run X K W sv (.Break pos :: rest) G (.bk G') := fun F H σ fps D E s q =>
  ⟨tSeq tBreak tNever, pss_cons ps_break pss_never, q F H σ fps (w.ok E) s Le.refl⟩

/-- what stands at a place is frozen -/
theorem EnvOk.freeze {F H : Hp} {σ : L2.St} {G : Env} {fps : Nat → List Addr} {i : Nat} {π : List Nat} {c : Cell} {d : Dt} (E : EnvOk K F H σ G fps) (h : atG G i π = some c) (hd : c.data = some d) :
    ∃ (F' : Hp) (fps' : Nat → List Addr) (fpc : List Addr), EnvOk K F' H σ (updG G i π (.fz d)) fps' ∧ Ex F F' ∧ (∀ a, a ∉ fpc → F' a = F a) ∧ (∀ a, Owns fps a ↔ Owns fps' a ∨ a ∈ fpc) ∧ (∀ a ∈ fpc, F a = none ∧ F' a = H a) ∧ ∃ v, RepC K F H fpc v c := by
  obtain ⟨v, fpc, fps1, h1, r, E1, ow, ds⟩ := E.take h
  have n : ∀ a ∈ fpc, F a = none := fun a ha => (E.ownF ((ow a).mpr (.inr ha))).1
  have ex := frz_ex (H := H) n
  have E2 : EnvOk K (frz F H fpc) H σ (updG G i π (.hl v)) fps1 := E1.keep ex (frz_sub E1.sub) (fun _ _ _ z => z) fun a ha => by
    rw [frz_out fun z => ds a z ha]
    exact (E1.ownF ha).1
  obtain ⟨fps2, E3, o3⟩ := E2.give (atG_upd h) (.fz (r.frozen ex (fun a ha => frz_in ha) hd)) (fun a ha => nomatch ha) (fun a ha => nomatch ha)
  rw [updG_upd] at E3
  exact ⟨_, fps2, fpc, E3, ex, fun a ha => frz_out ha, fun a => by rw [ow a, o3 a]; simp, fun a ha => ⟨n a ha, frz_in ha⟩, v, r⟩
theorem run_freezeP {ss : List Stmt} {i : Nat} {π : List Nat} {c : Cell} {d : Dt} (hg : atG G i π = some c) (hd : c.data = some d) (k : Run X K W sv ss (updG G i π (.fz d)) o) : Run X K W sv ss G o := fun F H σ fps D E s q => by
  obtain ⟨F', fps', fpc, E', ex, out, ow, _, _⟩ := E.freeze hg hd
  refine k F' H σ fps' D E' s (q.le ⟨ex, fun _ _ _ z => z, fun a ho z _ => ?_, fun a ha => .inl ((ow a).mpr (.inl ha))⟩)
  rw [out a fun y => ho ((ow a).mpr (.inr y))]; exact z
/-- an own list is frozen from here on -/
theorem run_freeze {ss : List Stmt} {i : Nat} {ds : List Dt} (hg : G[i]? = some (some (.ol ds))) (k : Run X K W sv ss (G.set i (some (.fz (.lst ds)))) o) : Run X K W sv ss G o :=
  run_freezeP (i := i) (π := []) (c := .ol ds) (d := .lst ds) (by unfold atG; rw [hg]; rfl) rfl (by unfold updG; rw [hg]; exact k)
/-- an own dict is frozen from here on -/
theorem run_freezeD {ss : List Stmt} {i : Nat} {ds : List (Key × Dt)} (hg : G[i]? = some (some (.od ds))) (k : Run X K W sv ss (G.set i (some (.fz (.dic ds)))) o) : Run X K W sv ss G o :=
  run_freezeP (i := i) (π := []) (c := .od ds) (d := .dic ds) (by unfold atG; rw [hg]; rfl) rfl (by unfold updG; rw [hg]; exact k)

/-! ### if -/
def NoNx (o : Out) : Prop := ∀ G, o ≠ .nx G
theorem Fin.ends {D D' : Ends} {F H : Hp} {fps : Nat → List Addr} (hb : D'.bk = D.bk) (hc : D'.ct = D.ct) (hr : D'.rt = D.rt) : ∀ {o : Out}, NoNx o → Fin K W sv D F H fps o → Fin K W sv D' F H fps o
  | .nx G, n, _ => absurd rfl (n G)
  | .bk _, _, h => fun F' H' σ' fps' e s l => by rw [hb]; exact h F' H' σ' fps' e s l
  | .ct _, _, h => fun F' H' σ' fps' e s l => by rw [hc]; exact h F' H' σ' fps' e s l
  | .rt _ none, _, h => fun F' H' v fp s l r n => by rw [hr]; exact h F' H' v fp s l r n
  | .rt _ (some _), _, h => fun F' H' σ' fps' v fp e s l r n => by rw [hr]; exact h F' H' σ' fps' v fp e s l r n
  | .xc _ _, _, h => h
theorem run_ifM {S T : Type} {c : Expr} {b : Bool} {thn els : List Stmt} (Gj : S → Env) (E : T → Out) (k : S → T) {r1 r2 : Sum S T} (hE : ∀ x, NoNx (E x)) (hc : EB (one X) K G c b)
    (h1 : b = true → Run X K W sv thn G (match r1 with | .inl s => .nx (Gj s) | .inr x => E x)) (h2 : b = false → Run X K W sv els G (match r2 with | .inl s => .nx (Gj s) | .inr x => E x))
    (hk : ∀ s, Run X K W sv rest (Gj s) (E (k s))) : Run X K W sv (.If c thn els pos :: rest) G (E (match (cond b r1 r2) with | .inl s => k s | .inr x => x)) := fun F H σ fps D Eo s q =>
  ⟨tSeq (tIfS (wpT (one X) c) (wpSs X thn) (wpSs X els)) (wpSs X rest), pss_cons (ps_if pt_w1 pss_wp pss_wp) pss_wp, hc F H σ fps _ Eo fun F1 H1 u => by
    have key : ∀ (r : Sum S T) (ss : List Stmt), Run X K W sv ss G (match r with | .inl s => .nx (Gj s) | .inr x => E x) → Fin K W sv D F H fps (E (match r with | .inl s => k s | .inr x => x)) →
        wpSs X ss { D with nx := wpSs X rest D } σ H1 := fun r ss hr q => by
      cases r with
      | inl z => exact hr F1 H1 σ fps _ (Eo.up u) s fun F' H' σ' fps' e' s' l' => hk z F' H' σ' fps' D e' s' (q.le (u.le.trans l'))
      | inr z => exact hr F1 H1 σ fps _ (Eo.up u) s (Fin.ends (D := D) (D' := { D with nx := wpSs X rest D }) (o := E z) rfl rfl rfl (hE z) (q.le u.le))
    cases b with
    | true => exact key r1 thn (h1 rfl) q
    | false => exact key r2 els (h2 rfl) q⟩
/-- a branch that doesn't fall through -/
theorem run_guard {T : Type} {c : Expr} {b : Bool} {thn : List Stmt} (E : T → Out) {x y : T} (hE : NoNx (E x)) (hc : EB (one X) K G c b) (h1 : b = true → Run X K W sv thn G (E x)) (h2 : b = false → Run X K W sv rest G (E y)) :
    Run X K W sv (.If c thn [] pos :: rest) G (E (cond b x y)) := fun F H σ fps D Eo s q =>
  ⟨tSeq (tIfS (wpT (one X) c) (wpSs X thn) tNext) (wpSs X rest), pss_cons (ps_if pt_w1 pss_wp pss_nil) pss_wp, hc F H σ fps _ Eo fun F1 H1 u => by
    cases b with
    | true => exact h1 rfl F1 H1 σ fps _ (Eo.up u) s (Fin.ends (D := D) (D' := { D with nx := wpSs X rest D }) (o := E x) rfl rfl rfl hE (q.le u.le))
    | false => exact h2 rfl F1 H1 σ fps D (Eo.up u) s (q.le u.le)⟩
/-- both branches end the block -/
theorem run_ifE {T : Type} {c : Expr} {b : Bool} {thn els : List Stmt} (E : T → Out) {x y : T} (hx : NoNx (E x)) (hy : NoNx (E y)) (hc : EB (one X) K G c b) (h1 : b = true → Run X K W sv thn G (E x)) (h2 : b = false → Run X K W sv els G (E y)) :
    Run X K W sv (.If c thn els pos :: rest) G (E (cond b x y)) := fun F H σ fps D Eo s q =>
  ⟨tSeq (tIfS (wpT (one X) c) (wpSs X thn) (wpSs X els)) tNever, pss_cons (ps_if pt_w1 pss_wp pss_wp) pss_never, hc F H σ fps _ Eo fun F1 H1 u => by
    cases b with
    | true => exact h1 rfl F1 H1 σ fps _ (Eo.up u) s (Fin.ends (D := D) (D' := { D with nx := tNever D }) (o := E x) rfl rfl rfl hx (q.le u.le))
    | false => exact h2 rfl F1 H1 σ fps _ (Eo.up u) s (Fin.ends (D := D) (D' := { D with nx := tNever D }) (o := E y) rfl rfl rfl hy (q.le u.le))⟩
/-- both branches fall through -/
theorem run_ifJ {S : Type} {c : Expr} {b : Bool} {thn els : List Stmt} (Gj : S → Env) {s1 s2 : S} (hc : EB (one X) K G c b) (h1 : b = true → Run X K W sv thn G (.nx (Gj s1))) (h2 : b = false → Run X K W sv els G (.nx (Gj s2)))
    (hk : Run X K W sv rest (Gj (cond b s1 s2)) o) : Run X K W sv (.If c thn els pos :: rest) G o := fun F H σ fps D Eo s q =>
  ⟨tSeq (tIfS (wpT (one X) c) (wpSs X thn) (wpSs X els)) (wpSs X rest), pss_cons (ps_if pt_w1 pss_wp pss_wp) pss_wp, hc F H σ fps _ Eo fun F1 H1 u => by
    cases b with
    | true => exact h1 rfl F1 H1 σ fps _ (Eo.up u) s fun F' H' σ' fps' e' s' l' => hk F' H' σ' fps' D e' s' (q.le (u.le.trans l'))
    | false => exact h2 rfl F1 H1 σ fps _ (Eo.up u) s fun F' H' σ' fps' e' s' l' => hk F' H' σ' fps' D e' s' (q.le (u.le.trans l'))⟩
/-- what comes behind is told of any value -/
theorem run_any {T : Type} {ss : List Stmt} (x : T) (P : T → Prop) (hx : P x) {o : T → Out} {G : T → Env} (h : ∀ y, P y → Run X K W sv ss (G y) (o y)) : Run X K W sv ss (G x) (o x) := h x hx

/-! ### loops -/
inductive Step (S T : Type) where
  | nx (s : S) | ct (s : S) | bk (s : S) | fin (x : T)
def Step.out {S T : Type} (Gs : S → Env) (E : T → Out) : Step S T → Out
  | .nx s => .nx (Gs s)
  | .ct s => .ct (Gs s)
  | .bk s => .bk (Gs s)
  | .fin x => E x
def loop {A S T R : Type} (step : S → A → Step S R) (io : R → T) (k : S → T) : List A → S → T
  | [], s => k s
  | x :: xs, s => match step s x with
    | .nx s' => loop step io k xs s'
    | .ct s' => loop step io k xs s'
    | .bk s' => k s'
    | .fin y => io y
def LoopAll {A S T : Type} (P : S → A → Prop) (Q : S → Prop) (step : S → A → Step S T) : List A → S → Prop
  | [], s => Q s
  | x :: xs, s => P s x ∧ match step s x with
    | .nx s' => LoopAll P Q step xs s'
    | .ct s' => LoopAll P Q step xs s'
    | .bk s' => Q s'
    | .fin _ => True
theorem LoopAll.all {A S T : Type} {P : S → A → Prop} {Q : S → Prop} {step : S → A → Step S T} (h : ∀ s x, P s x) (hq : ∀ s, Q s) : ∀ (xs : List A) (s : S), LoopAll P Q step xs s
  | [], s => hq s
  | x :: xs, s => ⟨h s x, by
    cases step s x with
    | nx s' => exact LoopAll.all h hq xs s'
    | ct s' => exact LoopAll.all h hq xs s'
    | bk s' => exact hq s'
    | fin _ => trivial⟩
/-- it is returned or raised -/
def Term : Out → Prop
  | .rt _ _ => True
  | .xc _ _ => True
  | _ => False
theorem Fin.term {D D' : Ends} {F H : Hp} {fps : Nat → List Addr} (hr : D'.rt = D.rt) : ∀ {o : Out}, Term o → Fin K W sv D F H fps o → Fin K W sv D' F H fps o
  | .nx G, n, _ => n.elim
  | .bk _, n, _ => n.elim
  | .ct _, n, _ => n.elim
  | .rt _ none, _, h => fun F' H' v fp s l r n => by rw [hr]; exact h F' H' v fp s l r n
  | .rt _ (some _), _, h => fun F' H' σ' fps' v fp e s l r n => by rw [hr]; exact h F' H' σ' fps' v fp e s l r n
  | .xc _ _, _, h => h

/-- a loop's word at turn i -/
structure LoopW {A S T R : Type} (K : PySem.W.Frag) (W : WX) (sv : Sv) (D : Ends) (F0 H0 : Hp) (fps0 : Nat → List Addr) (Gs : S → Env) (E : T → Out) (P : S → A → Prop) (Q : S → Prop) (step : S → A → Step S R) (io : R → T) (k : S → T) (xs : List A) (y : T) (i : Nat) (σ : L2.St) (H : Hp) : Prop where
  ex : ∃ F fps s, EnvOk K F H σ (Gs s) fps ∧ Slf sv σ ∧ Le (Owns fps0) F0 H0 F H (Owns fps) ∧ loop step io k (xs.drop i) s = y ∧ LoopAll P Q step (xs.drop i) s
end
section
variable {X : Cx} {K : PySem.W.Frag} {W : WX} {sv : Sv} {G : Env} {rest : List Stmt} {o : Out} {pos : Pos} {A S T R : Type}
/-- one turn, whatever gives the items -/
theorem loop_turn {D : Ends} {F0 H0 : Hp} {fps0 : Nat → List Addr} {Gs : S → Env} {Gb : S → A → Env} {E : T → Out} {P : S → A → Prop} {Q : S → Prop} {step : S → A → Step S R} {io : R → T} {k : S → T} {xs : List A} {s0 : S} {body : List Stmt} {i : Nat} {x : A} {σ : L2.St} {H : Hp}
    (hE : ∀ y, Term (E (io y))) (hb : ∀ s x, x ∈ xs → P s x → Run X K W sv body (Gb s x) ((step s x).out Gs fun y => E (io y))) (hk : ∀ s, Q s → Run X K W sv rest (Gs s) (E (k s)))
    (q : Fin K W sv D F0 H0 fps0 (E (loop step io k xs s0))) (hx : xs[i]? = some x) (w : LoopW K W sv D F0 H0 fps0 Gs E P Q step io k xs (loop step io k xs s0) i σ H)
    (R : L2.St → Hp → Prop) (go : ∀ F fps s, EnvOk K F H σ (Gs s) fps → Slf sv σ → Le (Owns fps0) F0 H0 F H (Owns fps) → (∀ F' H' σ' fps', EnvOk K F' H' σ' (Gb s x) fps' → Slf sv σ' → Le (Owns fps) F H F' H' (Owns fps') →
      wpSs X body { D with nx := LoopW K W sv D F0 H0 fps0 Gs E P Q step io k xs (loop step io k xs s0) (i + 1), ct := LoopW K W sv D F0 H0 fps0 Gs E P Q step io k xs (loop step io k xs s0) (i + 1), bk := wpSs X rest D } σ' H') → R σ H) : R σ H := by
  obtain ⟨F, fps, s, e, sl, l, hy, hp⟩ := w.ex
  have hlt : i < xs.length := (List.getElem?_eq_some_iff.mp hx).1
  have hd : xs.drop i = x :: xs.drop (i + 1) := by
    rw [List.drop_eq_getElem_cons hlt]
    have : xs[i] = x := (List.getElem?_eq_some_iff.mp hx).2
    rw [this]
  rw [hd] at hy hp
  have hm : x ∈ xs := List.mem_of_getElem? hx
  refine go F fps s e sl l fun F' H' σ' fps' e' sl' l' => ?_
  refine hb s x hm hp.1 F' H' σ' fps' _ e' sl' ?_
  have hp2 := hp.2
  have hy2 : (match step s x with
    | .nx s' => loop step io k (xs.drop (i + 1)) s'
    | .ct s' => loop step io k (xs.drop (i + 1)) s'
    | .bk s' => k s'
    | .fin y => io y) = loop step io k xs s0 := hy
  generalize step s x = st at hy2 hp2
  cases st with
  | nx s' => exact fun F2 H2 σ2 fps2 e2 sl2 l2 => ⟨F2, fps2, s', e2, sl2, l.trans (l'.trans l2), hy2, hp2⟩
  | ct s' => exact fun F2 H2 σ2 fps2 e2 sl2 l2 => ⟨F2, fps2, s', e2, sl2, l.trans (l'.trans l2), hy2, hp2⟩
  | bk s' => exact fun F2 H2 σ2 fps2 e2 sl2 l2 => hk s' hp2 F2 H2 σ2 fps2 D e2 sl2 (by
      rw [show k s' = loop step io k xs s0 from hy2]
      exact q.le (l.trans (l'.trans l2)))
  | fin y =>
    show Fin K W sv _ F' H' fps' (E (io y))
    have hT := hE y
    rw [show io y = loop step io k xs s0 from hy2] at hT ⊢
    exact Fin.term (D := D) (D' := { D with nx := LoopW K W sv D F0 H0 fps0 Gs E P Q step io k xs (loop step io k xs s0) (i + 1), ct := LoopW K W sv D F0 H0 fps0 Gs E P Q step io k xs (loop step io k xs s0) (i + 1), bk := wpSs X rest D }) rfl hT (q.le (l.trans l'))
theorem loop_done {D : Ends} {F0 H0 : Hp} {fps0 : Nat → List Addr} {Gs : S → Env} {E : T → Out} {P : S → A → Prop} {Q : S → Prop} {step : S → A → Step S R} {io : R → T} {k : S → T} {xs : List A} {s0 : S} {i : Nat} {σ : L2.St} {H : Hp}
    (hk : ∀ s, Q s → Run X K W sv rest (Gs s) (E (k s))) (q : Fin K W sv D F0 H0 fps0 (E (loop step io k xs s0))) (hi : xs.length ≤ i) (w : LoopW K W sv D F0 H0 fps0 Gs E P Q step io k xs (loop step io k xs s0) i σ H) : wpSs X rest D σ H := by
  obtain ⟨F, fps, s, e, sl, l, hy, hp⟩ := w.ex
  rw [List.drop_eq_nil_of_le hi] at hy
  have hy2 : k s = loop step io k xs s0 := hy
  rw [List.drop_eq_nil_of_le hi] at hp
  exact hk s hp F H σ fps D e sl (by rw [hy2]; exact q.le l)
theorem envSet {F H : Hp} {σ : L2.St} {G : Env} {fps : Nat → List Addr} {i : Nat} {v : V} {d : Dt} (e : EnvOk K F H σ G fps) (hi : i < G.length) (r : Rep K F v d) : EnvOk K F H (σ.set i (some v)) (G.set i (some (.fz d))) (put fps i []) :=
  e.set hi (.fz r) (fun a ha => by simp at ha) fun a ha => by simp at ha
theorem leSet {F H : Hp} {fps : Nat → List Addr} {i : Nat} : Le (Owns fps) F H F H (Owns (put fps i [])) := ⟨Ex.refl F, fun _ _ _ z => z, fun _ _ z _ => z, fun a h => (owns_put h).elim (fun z => by simp at z) .inl⟩
end
end Vs

/-! What is walked, targets, for, comprehensions. -/
namespace Vs
open PySem PySem.Spec L2

/-- what an iterator gives -/
def Kp (F1 H1 H' : Hp) : Prop := ∀ a o, F1 a ≠ none → H1 a = some o → H' a = some o
structure Yields (K : PySem.W.Frag) (J : It) (F1 H1 : Hp) (ds : List Dt) : Prop where
  stop : ∀ i F' H', Ex F1 F' → Sub F' H' → Kp F1 H1 H' → ds.length ≤ i → J.stop i H'
  go : ∀ i F' H', Ex F1 F' → Sub F' H' → Kp F1 H1 H' → i < ds.length → J.go i H'
  yld : ∀ i d F' H' v H'', Ex F1 F' → Sub F' H' → Kp F1 H1 H' → ds[i]? = some d → J.yld i H' v H'' → ∃ F'', Up F' H' F'' H'' ∧ Rep K F'' v d
def ISrc (X : Cx) (K : PySem.W.Frag) (G : Env) (tg iter : Expr) (ds : List Dt) : Prop :=
  ∃ wi, PI X tg iter wi ∧ (∀ x, foldedSetIterable iter X.env x = pure x) ∧ ∀ F H σ fps (R : It → Hp → Prop), EnvOk K F H σ G fps → (∀ J F1 H1, Up F H F1 H1 → Yields K J F1 H1 ds → R J H1) → wi σ H R
/-- .. where something holds at the beginning -/
def ISrcL (L : Hp → Hp → L2.St → Prop) (X : Cx) (K : PySem.W.Frag) (G : Env) (tg iter : Expr) (ds : List Dt) : Prop :=
  ∃ wi, PI X tg iter wi ∧ (∀ x, foldedSetIterable iter X.env x = pure x) ∧ ∀ F H σ fps (R : It → Hp → Prop), EnvOk K F H σ G fps → L F H σ → (∀ J F1 H1, Up F H F1 H1 → Yields K J F1 H1 ds → R J H1) → wi σ H R
theorem ISrc.lk {X : Cx} {K : PySem.W.Frag} {G : Env} {tg iter : Expr} {ds : List Dt} (h : ISrc X K G tg iter ds) : ISrcL (fun _ _ _ => True) X K G tg iter ds := by
  obtain ⟨wi, h1, h2, h3⟩ := h
  exact ⟨wi, h1, h2, fun F H σ fps R e _ q => h3 F H σ fps R e q⟩
theorem kp_le {K : PySem.W.Frag} {F H F' H' : Hp} {σ : L2.St} {G : Env} {fps fps' : Nat → List Addr} (E : EnvOk K F H σ G fps) (l : Le (Owns fps) F H F' H' (Owns fps')) : Kp F H H' := fun a o n z => l.hp a o (fun y => n (E.own y.choose a y.choose_spec).1) z
section
variable {X : Cx} {K : PySem.W.Frag} {G : Env} {tg iter : Expr} {ds : List Dt}
theorem src_list (hK : X.K = K) (h : EX (one X) K G iter (.lst ds)) (hs : ∀ x, foldedSetIterable iter X.env x = pure x := by intro _; rfl) : ISrc X K G tg iter ds :=
  ⟨iList X.K (wpE (one X) iter), pi_list pe_w1, hs, fun F H σ fps R E q => h F H σ fps _ E fun F1 H1 v u r => by
    cases r with
    | lst h1 l1 r1 =>
      rename_i a vs
      rw [hK]
      refine ⟨a, rfl, ⟨vs, SqL.of (u.sb.lst h1)⟩, q _ F1 H1 u ⟨fun i F' H' e s _ hi => ⟨vs, SqL.of (s.lst (e _ _ h1)), by rw [r1.len]; exact hi⟩, fun i F' H' e s _ hi => ?_, fun i d F' H' v H'' e s _ hd hy => ?_⟩⟩
      · have hl : i < vs.length := by rw [r1.len]; exact hi
        exact ⟨vs, vs[i], SqL.of (s.lst (e _ _ h1)), by simp [hl]⟩
      · obtain ⟨rfl, hv⟩ := hy
        obtain ⟨w, h2, h3⟩ := r1.get hd
        have := hv vs (SqL.of (s.lst (e _ _ h1)))
        rw [h2] at this; cases this
        exact ⟨F', Up.refl s, h3.mono e⟩⟩
theorem src_tup (hK : X.K = K) (h : EX (one X) K G iter (.tup ds)) (hs : ∀ x, foldedSetIterable iter X.env x = pure x := by intro _; rfl) : ISrc X K G tg iter ds :=
  ⟨iTup X.K (wpE (one X) iter), pi_tup pe_w1, hs, fun F H σ fps R E q => h F H σ fps _ E fun F1 H1 v u r => by
    cases r with
    | tup h1 l1 r1 =>
      rename_i a vs
      rw [hK]
      refine ⟨a, rfl, ⟨vs, SqT.of (u.sb.tup h1)⟩, q _ F1 H1 u ⟨fun i F' H' e s _ hi => ⟨vs, SqT.of (s.tup (e _ _ h1)), by rw [r1.len]; exact hi⟩, fun i F' H' e s _ hi => ?_, fun i d F' H' v H'' e s _ hd hy => ?_⟩⟩
      · have hl : i < vs.length := by rw [r1.len]; exact hi
        exact ⟨vs, vs[i], SqT.of (s.tup (e _ _ h1)), by simp [hl]⟩
      · obtain ⟨rfl, hv⟩ := hy
        obtain ⟨w, h2, h3⟩ := r1.get hd
        have := hv vs (SqT.of (s.tup (e _ _ h1)))
        rw [h2] at this; cases this
        exact ⟨F', Up.refl s, h3.mono e⟩⟩
theorem src_scr (hK : X.K = K) (h : EX (one X) K G iter (.scr ds)) (hs : ∀ x, foldedSetIterable iter X.env x = pure x := by intro _; rfl) : ISrc X K G tg iter ds :=
  ⟨iList X.K (wpE (one X) iter), pi_list pe_w1, hs, fun F H σ fps R E q => h F H σ fps _ E fun F1 H1 v u r => by
    cases r with
    | scr h1 l1 r1 =>
      rename_i a vs
      rw [hK]
      have sc : ∀ F' H', Ex F1 F' → Sub F' H' → SqL K H' a vs := fun F' H' e s => s.sql (e.sql h1)
      refine ⟨a, rfl, ⟨vs, sc F1 H1 (Ex.refl _) u.sb⟩, q _ F1 H1 u ⟨fun i F' H' e s _ hi => ⟨vs, sc F' H' e s, by rw [r1.len]; exact hi⟩, fun i F' H' e s _ hi => ?_, fun i d F' H' v H'' e s _ hd hy => ?_⟩⟩
      · have hl : i < vs.length := by rw [r1.len]; exact hi
        exact ⟨vs, vs[i], sc F' H' e s, by simp [hl]⟩
      · obtain ⟨rfl, hv⟩ := hy
        obtain ⟨w, h2, h3⟩ := r1.get hd
        have := hv vs (sc F' _ e s)
        rw [h2] at this; cases this
        exact ⟨F', Up.refl s, h3.mono e⟩⟩
/-- the signs of a text -/
def signs (s : Str) : List Dt := s.cps.toList.map fun c => .str ⟨#[c]⟩
theorem src_str {s : Str} (h : EX (one X) K G iter (.str s)) (hs : ∀ x, foldedSetIterable iter X.env x = pure x := by intro _; rfl) : ISrc X K G tg iter (s.cps.toList.map fun c => .str ⟨#[c]⟩) :=
  ⟨iStr (wpE (one X) iter), pi_str pe_w1, hs, fun F H σ fps R E q => h F H σ fps _ E fun F1 H1 v u r => by
    cases r with
    | str _ l1 =>
      refine ⟨s, rfl, q _ F1 H1 u ⟨fun i F' H' e s' _ hi => ?_, fun i F' H' e s' _ hi => ?_, fun i d F' H' v H'' e s' _ hd hy => ?_⟩⟩
      · rw [List.length_map] at hi
        exact hi
      · rw [List.length_map] at hi
        exact hi
      · obtain ⟨rfl, c, hc, rfl⟩ := hy
        rw [List.getElem?_map] at hd
        have e2 : s.cps.toList[i]? = some c := by rw [Array.getElem?_toList]; exact hc
        rw [e2] at hd
        cases hd
        exact ⟨F', Up.refl s', .str _ (good_one ((good_iff.mp l1).2 c (List.mem_of_getElem? e2)))⟩⟩
/-- range(n) -/
theorem src_range1 {a : Expr} {p pos : Pos} {n : Int} (hg : Gl X "range") (hm : X.mg "range" = none) (h : EX (one X) K G a (.int n)) (h1 : -(2 ^ 62) ≤ n) (h2 : n < 2 ^ 62) (hsa : starEach [a] X.env = [(false, eval a X.env)] := by rfl)
    (hs : ∀ x, foldedSetIterable (.Call (.Name "range" p) [a] [] pos) X.env x = pure x := by intro _; rfl) : ISrc X K G tg (.Call (.Name "range" p) [a] [] pos) ((List.range n.toNat).map fun (i : Nat) => Dt.int (i : Int)) :=
  ⟨iRng1 (tCons (wpE (one X) a) tNil), pi_range1 hg hm (pa_cons pe_w1 pa_nil hsa) hsa, hs, fun F H σ fps R E q => h F H σ fps _ E fun F1 H1 v u r => by
    cases r
    refine ⟨n, rfl, h1, h2, q _ F1 H1 u ⟨fun i F' H' e s' _ hi => ?_, fun i F' H' e s' _ hi => ?_, fun i d F' H' v H'' e s' _ hd hy => ?_⟩⟩
    · rw [List.length_map, List.length_range] at hi
      exact hi
    · rw [List.length_map, List.length_range] at hi
      exact hi
    · obtain ⟨rfl, rfl⟩ := hy
      rw [List.getElem?_map] at hd
      have hi : i < (List.range n.toNat).length := by
        cases z : (List.range n.toNat)[i]? with
        | none => rw [z] at hd; cases hd
        | some k => exact (List.getElem?_eq_some_iff.mp z).1
      rw [List.length_range] at hi
      rw [List.getElem?_range hi] at hd
      cases hd
      exact ⟨F', Up.refl s', by rw [Int.zero_add]; exact .int _⟩⟩
/-- range(a, b) -/
theorem src_range2 {a b : Expr} {p pos : Pos} {lo n : Int} (hg : Gl X "range") (hm : X.mg "range" = none) (h : EX (one X) K G a (.int lo)) (h' : EX (one X) K G b (.int n)) (h1 : -(2 ^ 62) ≤ lo ∧ lo < 2 ^ 62 ∧ -(2 ^ 62) ≤ n ∧ n < 2 ^ 62)
    (hsa : starEach [a, b] X.env = [(false, eval a X.env), (false, eval b X.env)] := by rfl) (hsb : starEach [b] X.env = [(false, eval b X.env)] := by rfl)
    (hs : ∀ x, foldedSetIterable (.Call (.Name "range" p) [a, b] [] pos) X.env x = pure x := by intro _; rfl) : ISrc X K G tg (.Call (.Name "range" p) [a, b] [] pos) ((List.range (n - lo).toNat).map fun (i : Nat) => Dt.int (lo + (i : Int))) :=
  ⟨iRng2 (tCons (wpE (one X) a) (tCons (wpE (one X) b) tNil)), pi_range2 hg hm (pa_cons pe_w1 (pa_cons pe_w1 pa_nil hsb) (by rw [hsa, hsb])) hsa hsb, hs, fun F H σ fps R E q => h F H σ fps _ E fun F1 H1 v u r => h' F1 H1 σ fps _ (E.up u) fun F2 H2 v2 u2 r2 => by
    cases r; cases r2
    refine ⟨lo, n, rfl, h1, q _ F2 H2 (u.trans u2) ⟨fun i F' H' e s' _ hi => ?_, fun i F' H' e s' _ hi => ?_, fun i d F' H' v H'' e s' _ hd hy => ?_⟩⟩
    · rw [List.length_map, List.length_range] at hi
      exact hi
    · rw [List.length_map, List.length_range] at hi
      exact hi
    · obtain ⟨rfl, rfl⟩ := hy
      rw [List.getElem?_map] at hd
      have hi : i < (List.range (n - lo).toNat).length := by
        cases z : (List.range (n - lo).toNat)[i]? with
        | none => rw [z] at hd; cases hd
        | some k => exact (List.getElem?_eq_some_iff.mp z).1
      rw [List.length_range] at hi
      rw [List.getElem?_range hi] at hd
      cases hd
      exact ⟨F', Up.refl s', .int _⟩⟩
theorem mapIdx_get {A B : Type} (f : Nat → A → B) (xs : List A) (i : Nat) : (xs.mapIdx f)[i]? = xs[i]?.map (f i) := by
  rw [List.getElem?_mapIdx]
/-- enumerate(list) -/
theorem src_enum {a : Expr} {p pos tpos : Pos} {elts : List Expr} {kk : Nat} (hK : X.K = K) (hg : Gl X "enumerate") (hm : X.mg "enumerate" = none) (h : EX (one X) K G a (.lst ds)) (hsa : starEach [a] X.env = [(false, eval a X.env)] := by rfl)
    (hs : ∀ x, foldedSetIterable (.Call (.Name "enumerate" p) [a] [] pos) X.env x = pure x := by intro _; rfl) : ISrc X K G (.Tuple elts kk tpos) (.Call (.Name "enumerate" p) [a] [] pos) (ds.mapIdx fun i d => .tup [.int (i : Int), d]) :=
  ⟨iEnum X.K (tCons (wpE (one X) a) tNil), pi_enum hg hm (pa_cons pe_w1 pa_nil hsa) hsa, hs, fun F H σ fps R E q => h F H σ fps _ E fun F1 H1 v u r => by
    cases r with
    | lst h1 l1 r1 =>
      rename_i a vs
      rw [hK]
      refine ⟨a, vs, rfl, SqL.of (u.sb.lst h1), q _ F1 H1 u ⟨fun i F' H' e s _ hi => ⟨vs, SqL.of (s.lst (e _ _ h1)), by rw [r1.len]; simpa using hi⟩, fun i F' H' e s _ hi => ?_, fun i d F' H' v H'' e s _ hd hy => ?_⟩⟩
      · have hl : i < vs.length := by rw [r1.len]; simpa using hi
        exact ⟨vs, vs[i], SqL.of (s.lst (e _ _ h1)), by simp [hl]⟩
      · obtain ⟨T, x, rfl, hT, rfl, hv⟩ := hy
        rw [mapIdx_get] at hd
        cases hx : ds[i]? with
        | none => rw [hx] at hd; cases hd
        | some d0 =>
          rw [hx] at hd; cases hd
          obtain ⟨w, h2, h3⟩ := r1.get hx
          have e9 := hv vs (SqL.of (s.lst (e _ _ h1)))
          rw [h2] at e9
          obtain rfl : w = x := Option.some.inj e9
          have up := Up.lay (o := .tup [.int (i : Nat), w]) s hT
          exact ⟨_, up, .tup upd_same (by show 2 ≤ big; decide) (.cons (.int _) (.cons ((h3.mono e).mono up.fr) .nil))⟩⟩
end

/-! ### targets -/
/-- g puts the data d into the names js -/
def Bd (K : PySem.W.Frag) (g : TG) (js : List Nat) (d : Dt) (G G' : Env) : Prop :=
  ∀ F H σ fps v (Q : L2.St → Hp → Prop), EnvOk K F H σ G fps → Rep K F v d → (∀ σ' fps', EnvOk K F H σ' G' fps' → σ'.length = σ.length → (∀ i, i ∉ js → σ'[i]? = σ[i]?) → Le (Owns fps) F H F H (Owns fps') → Q σ' H) → g v σ H Q
section
variable {K : PySem.W.Frag} {G G' G'' : Env} {d : Dt}
theorem bd_name {j : Nat} (hl : j < G.length) : Bd K (gName j) [j] d G (G.set j (some (.fz d))) := fun F H σ fps v Q E r q =>
  q _ _ (envSet E hl r) (by rw [List.length_set]) (fun i hi => by
    have hne : j ≠ i := fun z => hi (by rw [z]; simp)
    rw [List.getElem?_set_ne hne]) leSet
/-- several targets -/
def BdL (K : PySem.W.Frag) (g : TGs) (js : List Nat) (ds : List Dt) (G G' : Env) : Prop :=
  ∀ F H σ fps vs (Q : L2.St → Hp → Prop), EnvOk K F H σ G fps → RepL K F vs ds → (∀ σ' fps', EnvOk K F H σ' G' fps' → σ'.length = σ.length → (∀ i, i ∉ js → σ'[i]? = σ[i]?) → Le (Owns fps) F H F H (Owns fps') → Q σ' H) → g vs σ H Q
theorem bdl_nil : BdL K gNil [] [] G G := fun F H σ fps vs Q E r q => by
  cases r
  exact ⟨rfl, q σ fps E rfl (fun _ _ => rfl) Le.refl⟩
theorem bdl_cons {g : TG} {gs : TGs} {js ks : List Nat} {ds : List Dt} (h : Bd K g js d G G') (hs : BdL K gs ks ds G' G'') : BdL K (gCons g gs) (js ++ ks) (d :: ds) G G'' := fun F H σ fps vs Q E r q => by
  cases r with
  | cons r1 r2 =>
    refine ⟨_, _, rfl, h F H σ fps _ _ E r1 fun σ1 fps1 E1 l1 e1 le1 => ?_⟩
    refine hs F H σ1 fps1 _ _ E1 r2 fun σ2 fps2 E2 l2 e2 le2 => q σ2 fps2 E2 (l2.trans l1) (fun i hi => ?_) (le1.trans le2)
    rw [List.mem_append] at hi
    rw [e2 i (fun z => hi (.inr z)), e1 i (fun z => hi (.inl z))]
theorem bd_tup {g : TGs} {js : List Nat} {ds : List Dt} {n : Nat} (h : BdL K g js ds G G') (hn : ds.length = n) : Bd K (gTup K n g) js (.tup ds) G G' := fun F H σ fps v Q E r q => by
  cases r with
  | tup h1 l1 r1 => exact ⟨_, _, rfl, SqT.of (E.sub.tup h1), by rw [r1.len, hn], h F H σ fps _ Q E r1 q⟩
end

section
variable {X : Cx} {K : PySem.W.Frag} {W : WX} {sv : Sv} {G : Env} {rest : List Stmt} {o : Out} {pos : Pos} {A S T : Type}
theorem Slf.same {σ σ' : L2.St} {js : List Nat} (s : Slf sv σ) (h : ∀ i, i ∉ js → σ'[i]? = σ[i]?) (hv : noneIn sv.ks js = true) : Slf sv σ' := fun i e => by
  rw [h i (noneIn_ok hv i e)]; exact s i e
/-- a, b = e -/
theorem run_asgT {tg e : Expr} {g : TG} {js : List Nat} {d : Dt} {G' : Env} (h : EX (one X) K G e d) (hg : PG X tg g) (hB : Bd K g js d G G') (hv : noneIn sv.ks js = true) (k : Run X K W sv rest G' o)
    (hs : swapsWithSole [tg] e pos.line X.env = pure false := by rfl) (hw : swappedStores [tg] e X.env = pure none := by rfl) (hx : (assignEach [tg] X.env).map (·.2) = [assign tg X.env] := by rfl) : Run X K W sv (.Assign [tg] e pos :: rest) G o := fun F H σ fps D E s q =>
  ⟨tSeq (tAsg (wpE (one X) e) g) (wpSs X rest), pss_cons (ps_asg pe_w1 hg hs hw hx) pss_wp, h F H σ fps _ E fun F1 H1 v u r =>
    hB F1 H1 σ fps v _ (E.up u) r fun σ' fps' E' _ e' l' => k F1 H1 σ' fps' D E' (s.same e' hv) (q.le (u.le.trans l'))⟩
/-- for TARGET in SOURCE -/
theorem run_for {R : Type} {tg iter : Expr} {g : TG} {js : List Nat} {body : List Stmt} {P : S → A → Prop} {Q : S → Prop} {s0 : S} {xs : List A} (enc : A → Dt) (Gs : S → Env) (Gb : S → A → Env) (E : T → Out) (step : S → A → Step S R) (io : R → T) (k : S → T)
    (hp : PassesOwn (model X.prog X.w) X.A X.env X.xe) (hc : X.calm = true) (hg : PG X tg g) (hv : noneIn sv.ks js = true) (hE : ∀ y, Term (E (io y)))
    (hi : ISrc X K G tg iter (xs.map enc)) (h0 : Weak G (Gs s0)) (hB : ∀ s x, Bd K g js (enc x) (Gs s) (Gb s x)) (hP : LoopAll P Q step xs s0)
    (hb : ∀ s x, x ∈ xs → P s x → Run X K W sv body (Gb s x) ((step s x).out Gs fun y => E (io y)))
    (hk : ∀ s, Q s → Run X K W sv rest (Gs s) (E (k s))) : Run X K W sv (.For tg iter body [] pos :: rest) G (E (loop step io k xs s0)) := fun F H σ fps D Eo s q => by
  obtain ⟨wi, h1, h2, h3⟩ := hi
  refine ⟨tSeq (tFor wi g (wpSs X body)) (wpSs X rest), pss_cons (ps_for hp hc h1 hg pss_wp h2) pss_wp, h3 F H σ fps _ Eo fun J F1 H1 u y => ?_⟩
  have q1 : Fin K W sv D F1 H1 fps (E (loop step io k xs s0)) := q.le u.le
  refine ⟨fun i m σ' H' => (m = xs.length - i ∧ i ≤ xs.length) ∧ LoopW K W sv D F1 H1 fps Gs E P Q step io k xs (loop step io k xs s0) i σ' H', ⟨xs.length, ⟨by omega, Nat.zero_le _⟩, F1, fps, s0, h0.ok (Eo.up u), s, Le.refl, rfl, hP⟩, ?_⟩
  rintro i m σ' H' ⟨⟨rfl, hi⟩, w⟩
  by_cases hlt : i < xs.length
  · refine .inr ⟨?_, fun σ2 H2 => LoopW K W sv D F1 H1 fps Gs E P Q step io k xs (loop step io k xs s0) (i + 1) σ2 H2, fun σ2 H2 w2 => ⟨xs.length - (i + 1), by omega, ⟨rfl, hlt⟩, w2⟩, fun v H2 hy => ?_⟩
    · obtain ⟨F', fps', s', e', _, l', _⟩ := w.ex
      exact y.go i F' H' l'.fr e'.sub (kp_le (Eo.up u) l') (by rw [List.length_map]; exact hlt)
    · refine loop_turn hE hb hk q1 (show xs[i]? = some xs[i] by simp [hlt]) w (fun σ' H' => J.yld i H' v H2 → g v σ' H2 fun σ2 H2 => wpSs X body _ σ2 H2) (fun F' fps' s' e' sl' l' go hy => ?_) hy
      obtain ⟨F2, u2, r2⟩ := y.yld i (enc xs[i]) F' H' v H2 l'.fr e'.sub (kp_le (Eo.up u) l') (by rw [List.getElem?_map]; simp [hlt]) hy
      exact hB s' xs[i] F2 H2 σ' fps' v _ (e'.up u2) r2 fun σ3 fps3 e3 _ h3 l3 => go F2 H2 σ3 fps3 e3 (sl'.same h3 hv) (u2.le.trans l3)
  · have hi2 : i = xs.length := by omega
    refine .inl ⟨?_, loop_done hk q1 (by omega) w⟩
    obtain ⟨F', fps', s', e', _, l', _⟩ := w.ex
    exact y.stop i F' H' l'.fr e'.sub (kp_le (Eo.up u) l') (by rw [List.length_map]; omega)
end

/-! ### comprehensions -/
def wipeG (G : Env) : List Nat → Env
  | [] => G
  | v :: vs => (wipeG G vs).set v none
theorem wipeG_len (G : Env) : ∀ vs : List Nat, (wipeG G vs).length = G.length
  | [] => rfl
  | v :: vs => by unfold wipeG; rw [List.length_set, wipeG_len G vs]
theorem wipe_get (σ : L2.St) : ∀ (vs : List Nat) (i : Nat), (wipe σ vs)[i]? = if i ∈ vs then (if i < σ.length then some none else none) else σ[i]?
  | [], i => by simp [wipe]
  | v :: vs, i => by
    unfold wipe
    by_cases h : v = i
    · subst h
      by_cases hl : v < σ.length
      · rw [List.getElem?_set_self (by rw [wipe_length]; exact hl)]; simp [hl]
      · rw [List.getElem?_eq_none (by rw [List.length_set, wipe_length]; omega)]; simp [hl]
    · rw [List.getElem?_set_ne h, wipe_get σ vs i]
      have hne : ¬ i = v := fun z => h z.symm
      simp [hne]
theorem wipe_same {σ σ' : L2.St} {vs : List Nat} (hl : σ'.length = σ.length) (h : ∀ i, i ∉ vs → σ'[i]? = (wipe σ vs)[i]?) : wipe σ' vs = wipe σ vs := by
  apply List.ext_getElem?
  intro i
  rw [wipe_get σ' vs i, wipe_get σ vs i]
  by_cases hi : i ∈ vs
  · simp [hi, hl]
  · have h1 := h i hi
    rw [wipe_get σ vs i] at h1
    simp only [hi, if_false] at h1 ⊢
    exact h1
theorem wipe_env {K : PySem.W.Frag} {F H : Hp} {σ : L2.St} {G : Env} {fps : Nat → List Addr} (e : EnvOk K F H σ G fps) : ∀ vs : List Nat, EnvOk K F H (wipe σ vs) (wipeG G vs) fps
  | [] => e
  | v :: vs => by
    have e1 := wipe_env e vs
    unfold wipe wipeG
    refine ⟨e1.sub, by rw [List.length_set, List.length_set, e1.len], fun i c h => ?_, e1.own, e1.dis⟩
    by_cases hv : v = i
    · subst hv
      by_cases hl : v < (wipeG G vs).length
      · rw [List.getElem?_set_self hl] at h; cases h
      · rw [List.getElem?_eq_none (by rw [List.length_set]; omega)] at h; cases h
    · rw [List.getElem?_set_ne hv] at h ⊢
      exact e1.ent i c h
theorem filterMap_take_succ {A B : Type} (f : A → Option B) {xs : List A} {i : Nat} {x : A} (h : xs[i]? = some x) : (xs.take (i + 1)).filterMap f = (xs.take i).filterMap f ++ (f x).toList := by
  rw [List.take_succ, h, List.filterMap_append]
  cases h2 : f x <;> simp [h2]
theorem filterMap_len {A B : Type} (f : A → Option B) (xs : List A) : (xs.filterMap f).length ≤ xs.length := List.length_filterMap_le f xs
section
variable {I A : Type} {X : I → Cx} {K : PySem.W.Frag} {G : Env}
/-- the block's contexts -/
structure BlkI (I : Type) where
  i : I
  s : Shared
  H : Hp
  C : Addr
  cl : List (Str × Addr)
  fp : List Addr
def blkX (X : I → Cx) (scope : Scope) : BlkI I → Cx := fun b => (X b.i).blk b.s b.H scope (compEnvC scope b.cl b.C (X b.i).env) b.fp
/-- tests of a comprehension -/
def ETs (X : I → Cx) (K : PySem.W.Frag) (G : Env) (ifs : List Expr) (b : Bool) : Prop :=
  ∃ t : TT, (∀ i, PTs (X i) ifs t) ∧ ∀ F H σ fps (Q : Bool → Hp → Prop), EnvOk K F H σ G fps → (∀ F' H', Up F H F' H' → Q b H') → t σ H Q

/-- the reading of a comprehension -/
theorem lc_readL (L : Hp → Hp → L2.St → Prop) {A : Type} {X : Cx} {elt tg iter : Expr} {ifs : List Expr} {scope : Scope} {own : List (Str × Nat)} {pos : Pos} {g : TG} {js : List Nat} {xs : List A} (enc : A → Dt) (Gb : A → Env) (p : A → Bool) (f : A → Dt)
    (hc : X.calm = true) (hN : X.N.Nodup) (hi : ISrcL L X K G tg iter (xs.map enc)) (hn : xs.length ≤ big) (ok : BlkOk X.N X.env.scope scope own) (hjs : ∀ j ∈ js, j ∈ own.map (·.2))
    (hg : ∀ b, PG (blkX (one X) scope b) tg g) (hB : ∀ x, Bd K g js (enc x) (wipeG G (own.map (·.2))) (Gb x))
    (ht : ∃ t : TT, (∀ i, PTs (blkX (one X) scope i) ifs t) ∧ ∀ x, x ∈ xs → ∀ F H σ fps (Q : Bool → Hp → Prop), EnvOk K F H σ (Gb x) fps → (∀ F' H', Up F H F' H' → Q (p x) H') → t σ H Q)
    (he : ∀ x, x ∈ xs → p x = true → EX (blkX (one X) scope) K (Gb x) elt (f x)) :
    ∃ (wi : TI) (tt : TT), PI X tg iter wi ∧ (∀ x, foldedSetIterable iter X.env x = pure x) ∧ (∀ b, PTs (blkX (one X) scope b) ifs tt) ∧ ∀ F H σ fps (Q : VK), EnvOk K F H σ G fps → L F H σ →
      (∀ F' H' v fp, Up F H F' H' → RepC K F' H' fp v (.ol (xs.filterMap fun x => if p x then some (f x) else none)) → (∀ a ∈ fp, H a = none ∧ F' a = none ∧ H' a ≠ none) → Q v H') →
      tLc wi g tt (wpE (blkX (one X) scope) elt) (own.map (·.2)) σ H Q := by
  obtain ⟨wi, h1, h2, h3⟩ := hi
  obtain ⟨tt, ht1, ht2⟩ := ht
  refine ⟨wi, tt, h1, h2, ht1, fun F H σ fps Q Eo hL q => ?_⟩
  refine h3 F H σ fps _ Eo hL fun J F1 H1 u y D hD => ?_
  have E1 := Eo.up u
  have hF1 : F1 D = none := u.sb.none hD
  have kp_D : ∀ {H' : Hp}, (∀ a o, a ≠ D → H1 a = some o → H' a = some o) → Kp F1 H1 H' := fun k a o n z => k a o (fun e => by subst e; exact n hF1) z
  have nD : ∀ i, D ∉ fps i := fun i z => (E1.own i D z).2 hD
  let out : A → Option Dt := fun x => if p x then some (f x) else none
  let Pv : Nat → Hp → Prop := fun i H' => ∃ F' acc, Sub F' H' ∧ F' D = none ∧ H' D = some (.lst acc) ∧ Ex F1 F' ∧ (∀ a o, a ≠ D → H1 a = some o → H' a = some o) ∧ (∀ a, a ≠ D → F1 a = none → H1 a ≠ none → F' a = none) ∧ RepL K F' acc ((xs.take i).filterMap out)
  have envAt : ∀ i H', Pv i H' → ∃ F' acc, Sub F' H' ∧ F' D = none ∧ H' D = some (.lst acc) ∧ Ex F1 F' ∧ (∀ a o, a ≠ D → H1 a = some o → H' a = some o) ∧ (∀ a, a ≠ D → F1 a = none → H1 a ≠ none → F' a = none) ∧ RepL K F' acc ((xs.take i).filterMap out) ∧ EnvOk K F' H' (wipe σ (own.map (·.2))) (wipeG G (own.map (·.2))) fps := by
    rintro i H' ⟨F', acc, a1, a2, a3, a4, a5, a6, a7⟩
    refine ⟨F', acc, a1, a2, a3, a4, a5, a6, a7, wipe_env ⟨a1, E1.len, fun j c h => ?_, fun j a h => ?_, E1.dis⟩ _⟩
    · obtain ⟨v, b1, b2⟩ := E1.ent j c h
      exact ⟨v, b1, RepC.mono a4 (fun a ha o z => a5 a o (fun e => nD j (e ▸ ha)) z) b2⟩
    · obtain ⟨b1, b2⟩ := E1.own j a h
      have hne : a ≠ D := fun e => nD j (e ▸ h)
      refine ⟨a6 a hne b1 b2, ?_⟩
      cases z : H1 a with
      | none => exact absurd z b2
      | some o => rw [a5 a o hne z]; simp
  refine ⟨fun i m H' => (m = xs.length - i ∧ i ≤ xs.length) ∧ Pv i H', ⟨xs.length, ⟨by omega, Nat.zero_le _⟩, F1, [], ?_, hF1, upd_same, Ex.refl F1, fun a o hne z => by rw [upd_ne hne]; exact z, fun a _ z _ => z, .nil⟩, ?_⟩
  · exact (Up.layH u.sb hD).sb
  rintro i m H' ⟨⟨rfl, hi⟩, pv⟩
  obtain ⟨F', acc, a1, a2, a3, a4, a5, a6, a7, Ei⟩ := envAt i H' pv
  by_cases hlt : i < xs.length
  · refine .inr ⟨y.go i F' H' a4 a1 (kp_D a5) (by rw [List.length_map]; exact hlt), fun H2 => Pv (i + 1) H2, fun H2 p2 => ⟨xs.length - (i + 1), by omega, ⟨rfl, hlt⟩, p2⟩, fun v H2 hy => ?_⟩
    have hx : xs[i]? = some xs[i] := by simp [hlt]
    have hm : xs[i] ∈ xs := List.getElem_mem hlt
    obtain ⟨F2, u2, r2⟩ := y.yld i (enc xs[i]) F' H' v H2 a4 a1 (kp_D a5) (by rw [List.getElem?_map, hx]; rfl) hy
    refine hB xs[i] F2 H2 _ fps v _ (Ei.up u2) r2 fun σ3 fps3 e3 l3 s3 le3 => ⟨wipe_same (l3.trans (wipe_length σ _)) (fun j hj => s3 j fun z => hj (hjs j z)), ?_⟩
    have tk : (xs.take (i + 1)).filterMap out = (xs.take i).filterMap out ++ (out xs[i]).toList := filterMap_take_succ out hx
    refine ht2 xs[i] hm F2 H2 σ3 fps3 _ e3 fun F3 H3 u3 => ?_
    have u23 := u2.trans u3
    have h3D : H3 D = some (.lst acc) := u23.hp D _ a3
    have f3D : F3 D = none := u23.nw D a2 (by rw [a3]; simp)
    cases hp : p xs[i] with
    | true =>
      show wpE (blkX (one X) scope) elt σ3 H3 _
      refine he xs[i] hm hp F3 H3 σ3 fps3 _ (e3.up u3) fun F4 H4 w u4 r4 => ⟨acc, u4.hp D _ h3D, ?_, ?_⟩
      · have hle := filterMap_len out (xs.take i)
        rw [List.length_take] at hle
        have hlen := a7.len
        have := big_line
        omega
      · have u24 := u23.trans u4
        refine ⟨F4, acc ++ [w], ?_, u4.nw D f3D (by rw [h3D]; simp), upd_same, a4.trans u24.fr, fun a o hne z => by rw [upd_ne hne]; exact u24.hp a o (a5 a o hne z), fun a hne z z' => ?_, ?_⟩
        · intro a o z
          have hne : a ≠ D := fun e => by subst e; rw [u4.nw a f3D (by rw [h3D]; simp)] at z; cases z
          rcases u4.sb a o z with b | ⟨b, ob, b'⟩
          · exact .inl (by rw [upd_ne hne]; exact b)
          · exact .inr ⟨b, ob, by rw [upd_ne hne]; exact b'⟩
        · refine u24.nw a (a6 a hne z z') ?_
          cases zz : H1 a with
          | none => exact absurd zz z'
          | some o => rw [a5 a o hne zz]; simp
        · rw [tk]
          have eo : out xs[i] = some (f xs[i]) := if_pos hp
          rw [eo]
          exact (a7.mono u24.fr).append (.cons r4 .nil)
    | false =>
      show Pv (i + 1) H3
      refine ⟨F3, acc, u3.sb, f3D, h3D, a4.trans u23.fr, fun a o hne z => u23.hp a o (a5 a o hne z), fun a hne z z' => ?_, ?_⟩
      · refine u23.nw a (a6 a hne z z') ?_
        cases zz : H1 a with
        | none => exact absurd zz z'
        | some o => rw [a5 a o hne zz]; simp
      · rw [tk]
        have eo : out xs[i] = none := if_neg (by rw [hp]; decide)
        rw [eo]
        show RepL K F3 acc (_ ++ [])
        rw [List.append_nil]
        exact a7.mono u23.fr
  · have hi2 : i = xs.length := by omega
    refine .inl ⟨y.stop i F' H' a4 a1 (kp_D a5) (by rw [List.length_map]; omega), ?_⟩
    have hD0 : H D = none := u.hp.free hD
    have hx : xs.take i = xs := by rw [hi2]; exact List.take_length
    rw [hx] at a7
    refine q F' H' (.ref D) [D] ⟨u.fr.trans a4, fun a o z => ?_, fun a z z' => ?_, a1⟩ (.ol a3 ?_ a7) fun a ha => ?_
    · have hne : a ≠ D := fun e => by subst e; rw [hD0] at z; cases z
      exact a5 a o hne (u.hp a o z)
    · have hne : a ≠ D := fun e => by subst e; exact z' hD0
      refine a6 a hne (u.nw a z z') ?_
      cases zz : H a with
      | none => exact absurd zz z'
      | some o => rw [u.hp a o zz]; simp
    · rw [a7.len]
      exact Nat.le_trans (filterMap_len _ _) hn
    · obtain rfl : a = D := by simpa using ha
      exact ⟨hD0, a2, by rw [a3]; simp⟩
/-- [elt for TARGET in SOURCE if ..] -/
theorem en_lc {A : Type} {X : Cx} {elt tg iter : Expr} {ifs : List Expr} {scope : Scope} {own : List (Str × Nat)} {pos : Pos} {g : TG} {js : List Nat} {xs : List A} (enc : A → Dt) (Gb : A → Env) (p : A → Bool) (f : A → Dt)
    (hc : X.calm = true) (hN : X.N.Nodup) (hi : ISrc X K G tg iter (xs.map enc)) (hn : xs.length ≤ big) (ok : BlkOk X.N X.env.scope scope own) (hjs : ∀ j ∈ js, j ∈ own.map (·.2))
    (hg : ∀ b, PG (blkX (one X) scope b) tg g) (hB : ∀ x, Bd K g js (enc x) (wipeG G (own.map (·.2))) (Gb x))
    (ht : ∃ t : TT, (∀ i, PTs (blkX (one X) scope i) ifs t) ∧ ∀ x, x ∈ xs → ∀ F H σ fps (Q : Bool → Hp → Prop), EnvOk K F H σ (Gb x) fps → (∀ F' H', Up F H F' H' → Q (p x) H') → t σ H Q)
    (he : ∀ x, x ∈ xs → p x = true → EX (blkX (one X) scope) K (Gb x) elt (f x)) :
    EN (one X) K G (.ListComp elt [⟨tg, iter, ifs, 0⟩] scope pos) (.ol (xs.filterMap fun x => if p x then some (f x) else none)) := fun F H σ fps Q Eo q => by
  obtain ⟨wi, tt, h1, h2, h3, h4⟩ := lc_readL (pos := pos) _ enc Gb p f hc hN hi.lk hn ok hjs hg hB ht he
  exact ⟨tLc wi g tt (wpE (blkX (one X) scope) elt) (own.map (·.2)), fun _ => pe_lc hc hN h1 ok (fun s H C cl fp => hg ⟨(), s, H, C, cl, fp⟩) (fun s H C cl fp => h3 ⟨(), s, H, C, cl, fp⟩) (fun s H C cl fp => pe_wp (X := blkX (one X) scope) ⟨(), s, H, C, cl, fp⟩) h2, h4 F H σ fps Q Eo trivial q⟩
/-- .. where something holds at the beginning -/
def ENL (L : Hp → Hp → L2.St → Prop) {I : Type} (X : I → Cx) (K : PySem.W.Frag) (G : Env) (e : Expr) (c : Cell) : Prop :=
  ∀ F H σ fps (Q : VK), EnvOk K F H σ G fps → L F H σ → (∀ F' H' v fp, Up F H F' H' → RepC K F' H' fp v c → (∀ a ∈ fp, H a = none ∧ F' a = none ∧ H' a ≠ none) → Q v H') → wpE X e σ H Q
theorem en_lcL (L : Hp → Hp → L2.St → Prop) {A : Type} {X : Cx} {elt tg iter : Expr} {ifs : List Expr} {scope : Scope} {own : List (Str × Nat)} {pos : Pos} {g : TG} {js : List Nat} {xs : List A} (enc : A → Dt) (Gb : A → Env) (p : A → Bool) (f : A → Dt)
    (hc : X.calm = true) (hN : X.N.Nodup) (hi : ISrcL L X K G tg iter (xs.map enc)) (hn : xs.length ≤ big) (ok : BlkOk X.N X.env.scope scope own) (hjs : ∀ j ∈ js, j ∈ own.map (·.2))
    (hg : ∀ b, PG (blkX (one X) scope b) tg g) (hB : ∀ x, Bd K g js (enc x) (wipeG G (own.map (·.2))) (Gb x))
    (ht : ∃ t : TT, (∀ i, PTs (blkX (one X) scope i) ifs t) ∧ ∀ x, x ∈ xs → ∀ F H σ fps (Q : Bool → Hp → Prop), EnvOk K F H σ (Gb x) fps → (∀ F' H', Up F H F' H' → Q (p x) H') → t σ H Q)
    (he : ∀ x, x ∈ xs → p x = true → EX (blkX (one X) scope) K (Gb x) elt (f x)) :
    ENL L (one X) K G (.ListComp elt [⟨tg, iter, ifs, 0⟩] scope pos) (.ol (xs.filterMap fun x => if p x then some (f x) else none)) := fun F H σ fps Q Eo hL q => by
  obtain ⟨wi, tt, h1, h2, h3, h4⟩ := lc_readL (pos := pos) L enc Gb p f hc hN hi hn ok hjs hg hB ht he
  exact ⟨tLc wi g tt (wpE (blkX (one X) scope) elt) (own.map (·.2)), fun _ => pe_lc hc hN h1 ok (fun s H C cl fp => hg ⟨(), s, H, C, cl, fp⟩) (fun s H C cl fp => h3 ⟨(), s, H, C, cl, fp⟩) (fun s H C cl fp => pe_wp (X := blkX (one X) scope) ⟨(), s, H, C, cl, fp⟩) h2, h4 F H σ fps Q Eo hL q⟩
end
end Vs

/-! Calls, promises, texts, slices, lists. -/
namespace Vs
open PySem PySem.Spec L2

/-! ### a def's promise over data -/
def spR (K : PySem.W.Frag) (n : Nat) (r : List Dt → Sum Cell Xc → Prop) : Sp := fun vs H Q E => ∃ F ds a, Sub F H ∧ RepL K F vs ds ∧ ds.length = n ∧ r ds a ∧ (match a with
  | .inl c => ∀ F' H' v fp, Up F H F' H' → RepC K F' H' fp v c → (∀ a ∈ fp, H a = none ∧ F' a = none ∧ H' a ≠ none) → Q v H'
  | .inr x => ∀ F' H' d, Up F H F' H' → XRep K F' d x.fs → E (.ref (He.ga K x.cls)) d H')
structure Callee (P : Program) (w : World) (K : PySem.W.Frag) (mg : Str → Option Value) (base : Heap) (x : Str) (k n : Nat) (r : List Dt → Sum Cell Xc → Prop) : Prop where
  ex : ∃ f fd ps, FnOk P w K mg base (L2.CX P w) k f fd ps (spR K n r) ∧ mg x = some (.ref f) ∧ PySem.W.keepIn K (.ref f) = true ∧ Binds K fd ps []
theorem Callee.imp {P : Program} {w : World} {K : PySem.W.Frag} {mg : Str → Option Value} {base : Heap} {x : Str} {k n : Nat} {r r' : List Dt → Sum Cell Xc → Prop} (c : Callee P w K mg base x k n r) (h : ∀ ds a, r' ds a → r ds a) : Callee P w K mg base x k n r' := by
  obtain ⟨f, fd, ps, h1, h2, h3, h4⟩ := c.ex
  exact ⟨f, fd, ps, h1.imp fun vs H Q E ⟨F, ds, a, a1, a2, a3, a4, a5⟩ => ⟨F, ds, a, a1, a2, a3, h ds a a4, a5⟩, h2, h3, h4⟩
/-- the contexts run in these surroundings -/
def Of {I : Type} (X : I → Cx) (P : Program) (w : World) (K : PySem.W.Frag) (mg : Str → Option Value) (base : Heap) : Prop := ∀ j, (X j).prog = P ∧ (X j).w = w ∧ (X j).K = K ∧ (X j).mg = mg ∧ (X j).base = base
section
variable {I : Type} {X : I → Cx} {K : PySem.W.Frag} {G : Env} {P : Program} {w : World} {mg : Str → Option Value} {base : Heap}
theorem en_call {x : Str} {k n : Nat} {r : List Dt → Sum Cell Xc → Prop} {p pos : Pos} {e : Expr} {es : List Expr} {ds : List Dt} {c : Cell} (C : Callee P w K mg base x k n r) (hX : Of X P w K mg base) (hr : ∀ j, Room k (X j).A) (hg : ∀ j, Gl (X j) x)
    (ha : EA X K G (e :: es) ds) (hn : ds.length = n) (hR : r ds (.inl c)) (hdb : (x == ("__debug__" : Str)) = false := by decide) (he : ∀ j, starEach (e :: es) (X j).env = (false, eval e (X j).env) :: starEach es (X j).env := by intro _; rfl)
    (hpl : ∀ j, (backTo pos (starEach es (X j).env)).any (·.1) = false := by intro _; rfl) : EN X K G (.Call (.Name x p) (e :: es) [] pos) c := fun F H σ fps Q Eo q => by
  obtain ⟨f, fd, ps, h1, h2, h3, h4⟩ := C.ex
  refine ⟨tCall (spR K n r) [] E0 (wpA X (e :: es)), fun j => ?_, ha F H σ fps _ Eo fun F1 H1 vs u rl => ?_⟩
  · obtain ⟨e1, e2, e3, e4, e5⟩ := hX j
    subst e1 e2 e3 e4 e5
    exact pe_call h1 (hr j) (hg j) h2 h3 h4 .nil passL (pa_wp j) hdb (he j) (hpl j)
  · rw [List.append_nil]
    exact ⟨F1, ds, .inl c, u.sb, rl, hn, hR, fun F' H' v fp u' r' n' => q F' H' v fp (u.trans u') r' fun a ha => ⟨u.hp.free (n' a ha).1, (n' a ha).2.1, (n' a ha).2.2⟩⟩
theorem EN.fz0 {e : Expr} {d : Dt} (h : EN X K G e (.fz d)) : EX X K G e d := fun F H σ fps Q Eo q => h F H σ fps Q Eo fun F' H' v fp u r n => q F' H' v u r.there.2
theorem ex_call {x : Str} {k n : Nat} {r : List Dt → Sum Cell Xc → Prop} {p pos : Pos} {e : Expr} {es : List Expr} {ds : List Dt} {d : Dt} (C : Callee P w K mg base x k n r) (hX : Of X P w K mg base) (hr : ∀ j, Room k (X j).A) (hg : ∀ j, Gl (X j) x)
    (ha : EA X K G (e :: es) ds) (hn : ds.length = n) (hR : r ds (.inl (.fz d))) (hdb : (x == ("__debug__" : Str)) = false := by decide) (he : ∀ j, starEach (e :: es) (X j).env = (false, eval e (X j).env) :: starEach es (X j).env := by intro _; rfl)
    (hpl : ∀ j, (backTo pos (starEach es (X j).env)).any (·.1) = false := by intro _; rfl) : EX X K G (.Call (.Name x p) (e :: es) [] pos) d := (en_call C hX hr hg ha hn hR hdb he hpl).fz0
end

/-- the names' data at a def's entry -/
def start0 (N : List Str) (ds : List Dt) : Env := ds.map (fun d => some (.fz d)) ++ List.replicate (N.length - ds.length) none
theorem start_ok {K : PySem.W.Frag} {F H : Hp} {N : List Str} {vs : List V} {ds : List Dt} (s : Sub F H) (r : RepL K F vs ds) : EnvOk K F H (L2.start N vs) (start0 N ds) (fun _ => []) := by
  refine ⟨s, by unfold L2.start start0; simp [r.len], fun i c h => ?_, fun i a h => by simp at h, fun i j a h => by simp at h⟩
  unfold start0 at h
  unfold L2.start
  by_cases hi : i < ds.length
  · rw [List.getElem?_append_left (by simpa using hi), List.getElem?_map] at h
    have e1 : ds[i]? = some ds[i] := by simp [hi]
    rw [e1] at h
    cases h
    obtain ⟨v, h1, h2⟩ := r.get e1
    refine ⟨v, ?_, .fz h2⟩
    rw [List.getElem?_append_left (by simp [r.len, hi]), List.getElem?_map, h1]
    rfl
  · rw [List.getElem?_append_right (by simpa using Nat.le_of_not_lt hi)] at h
    rw [List.getElem?_replicate] at h
    split at h <;> cases h
/-- what an outcome says of a call -/
inductive OutIs : Out → Sum Cell Xc → Prop
  | rt (c : Cell) : OutIs (.rt c none) (.inl c)
  | nx (G : Env) : OutIs (.nx G) (.inl (.fz .non))
  | xc (x : Xc) (G : Env) : OutIs (.xc x G) (.inr x)
section
variable {P : Program} {w : World} {K : PySem.W.Frag} {mg : Str → Option Value} {base : Heap}
abbrev wE (E : XK) : WX := fun cls d _ H => E cls d H
theorem fnOk_mk {x qual : Str} {params : Arguments} {body : List Stmt} {scope : Scope} {f : Addr} {fd : FuncData} {N ps : List Str} {k : Nat} {r : List Dt → Sum Cell Xc → Prop} {dvs : List V} {kws : List (Str × V)} (F : FunD K x qual params body scope dvs kws f fd) (S : FnScope N ps scope)
    (h : ∀ (cdv : Value) (A : Around) (outer : List PySem.Env) (s : Shared) (H : Hp) (E : XK) (ds : List Dt) (a : Sum Cell Xc), Room k (A.deeper (PyProof.Rows.envOfC qual scope s.heap.objs.size f cdv)) → r ds a → ds.length = ps.length →
      ∃ o, OutIs o a ∧ Run (cxOf (L2.CX P w) P w K mg base N qual scope f cdv A outer s H E) K (wE E) sv0 body (start0 N ds) o) : FnOk P w K mg base (L2.CX P w) (k + 1) f fd ps (spR K ps.length r) := by
  refine F.ok S (fun vs H Q E ⟨F', ds, a, _, rl, hn, _⟩ => by rw [rl.len, hn]) fun cdv A outer s H vs Q E hr ⟨F', ds, a, hs, rl, hn, hR, hq⟩ => ?_
  obtain ⟨o, ho, run⟩ := h cdv A outer s H E ds a hr hR hn
  have := run F' H (L2.start N vs) (fun _ => []) { nx := fun _ H' => Q .non H', rt := Q } (start_ok hs rl) (fun v e => nomatch e) ?_
  · exact this
  · cases ho with
    | rt c =>
      intro F2 H2 v fp s2 l rc n
      refine hq F2 H2 v fp ⟨l.fr, fun a o z => l.hp a o (fun ⟨i, z⟩ => by simp at z) z, fun a z z' => l.nw a (fun ⟨i, z⟩ => by simp at z) z z', s2⟩ rc fun a ha => ⟨?_, n a ha⟩
      rcases l.ow a ha with ⟨i, z⟩ | z
      · simp at z
      · exact z
    | nx G =>
      intro F2 H2 σ' fps' e' _ l
      exact hq F2 H2 .non [] ⟨l.fr, fun a o z => l.hp a o (fun ⟨i, z⟩ => by simp at z) z, fun a z z' => l.nw a (fun ⟨i, z⟩ => by simp at z) z z', e'.sub⟩ (.fz .non) fun a ha => by simp at ha
    | xc x G =>
      intro F2 H2 σ' fps' d e' _ l xr
      exact hq F2 H2 d ⟨l.fr, fun a o z => l.hp a o (fun ⟨i, z⟩ => by simp at z) z, fun a z z' => l.nw a (fun ⟨i, z⟩ => by simp at z) z z', e'.sub⟩ xr
end
end Vs

/-! isinstance, texts, slices, lists, dicts. -/
namespace Vs
open PySem PySem.Spec L2

/-! ### isinstance, a built-in type -/
def Dt.ty : Dt → String
  | .non => "NoneType"
  | .bl _ => "bool"
  | .int _ => "int"
  | .str _ => "str"
  | .lst _ => "list"
  | .tup _ => "tuple"
  | .dic _ => "dict"
  | .dit _ => "dict"
  | .ins _ _ => "object"
  | .scr _ => "list"
def Dt.plain : Dt → Bool
  | .ins _ _ => false
  | .dit _ => false
  | _ => true
theorem rep_ty {K : PySem.W.Frag} {F H : Hp} (s : Sub F H) {v : V} {d : Dt} (r : Rep K F v d) (h : d.plain = true) : TyX K H v (.type d.ty) := by
  cases r with
  | non => exact .base .non
  | bl b => exact .base (.bl b)
  | int i => exact .base (.int i)
  | str x _ => exact .base (.str x)
  | lst h1 _ _ => exact .base (.lst (s.lst h1))
  | tup h1 _ _ => exact .base (.tup (s.tup h1))
  | dic h1 _ _ _ =>
    rcases s _ _ h1 with z | ⟨_, ob, z⟩
    · exact .base (.dK z)
    · exact .fDict z
  | dit _ _ _ _ => cases h
  | ins _ _ => cases h
  | scr h1 _ _ =>
    rcases s.sql h1 with (z | ⟨ob, z⟩) | ⟨o, its, n, z1, z2, _⟩
    · exact .base (.lst z)
    · exact .base (.frz z)
    · exact .kList z1 z2
section
variable {I : Type} {X : I → Cx} {K : PySem.W.Frag} {G : Env}
theorem ex_isTy {e : Expr} {d : Dt} {T : Str} {n : String} {b : Bool} {p p2 pos : Pos} (hK : ∀ j, (X j).K = K) (h : EX X K G e d) (hp : d.plain = true) (hk : kitB d.ty n = some b) (hg : ∀ j, Gl (X j) "isinstance") (hm : ∀ j, (X j).mg "isinstance" = none)
    (hgT : ∀ j, Gl (X j) T) (hmT : ∀ j, (X j).mg T = none) (hvT : bootBuiltins T = some (.type n)) (hTn : T ≠ "__name__" := by decide) (hTd : (T == ("__debug__" : Str)) = false := by decide)
    (he : ∀ j, starEach [e, .Name T p2] (X j).env = (false, eval e (X j).env) :: starEach [.Name T p2] (X j).env := by intro _; rfl) (he2 : ∀ j, starEach [.Name T p2] (X j).env = [(false, eval (.Name T p2) (X j).env)] := by intro _; rfl)
    (hpl : ∀ j, (backTo pos (starEach [.Name T p2] (X j).env)).any (·.1) = false := by intro _; rfl) : EX X K G (.Call (.Name "isinstance" p) [e, .Name T p2] [] pos) (.bl b) := fun F H σ fps Q k q =>
  ⟨tCB (rIsi K) (tCons (wpE X e) (tCons (tC (.ty n)) tNil)), fun j => by
      have c : CallR (X j) (.builtin "isinstance") (rIsi K) := hK j ▸ call_isi
      exact pe_callB c (hg j) (hm j) (by decide +kernel) (pa_cons (pe_wp j) (pa_cons (pe_bltn (hgT j) (hmT j) hvT rfl hTn hTd) pa_nil (he2 j)) (he j)) (by decide) (by decide) (he j) (hpl j),
    h F H σ fps _ k fun F1 H1 v u r => ⟨v, .ty n, _, _, b, rfl, .ty n, rep_ty u.sb r hp, kit_ty hk, q F1 H1 _ u (.bl b)⟩⟩

/-! ### chains: a <= b <= c on ints -/
theorem ex_chainI {op op' : CmpOp} {f g : Int → Int → Bool} {a b c : Expr} {pos : Pos} {i j k : Int} (ho : ∀ n, OpR (X n) (compareOp op) (rI0 fun i j => .bl (f i j))) (ho' : ∀ n, OpR (X n) (compareOp op') (rI0 fun i j => .bl (g i j)))
    (ha : EX X K G a (.int i)) (hb : EX X K G b (.int j)) (hc : EX X K G c (.int k)) (hm : lastMarks [op, op'] [b, c] = false) : EX X K G (.Compare a [op, op'] [b, c] pos) (.bl (f i j && g j k)) := fun F H σ fps Q e q =>
  ⟨tChain (rI0 fun i j => .bl (f i j)) (rI0 fun i j => .bl (g i j)) (wpE X a) (wpE X b) (wpE X c), fun n => pe_chain (ho n) (ho' n) (pe_wp n) (pe_wp n) (pe_wp n) hm, ha F H σ fps _ e fun F1 H1 v u r => hb F1 H1 σ fps _ (e.up u) fun F2 H2 v2 u2 r2 => by
    cases r; cases r2
    refine ⟨i, j, rfl, rfl, f i j, rfl, ?_⟩
    cases hf : f i j with
    | true =>
      show wpE X c σ H2 _
      refine hc F2 H2 σ fps _ ((e.up u).up u2) fun F3 H3 v3 u3 r3 => ?_
      cases r3
      refine ⟨j, k, rfl, rfl, ?_⟩
      have := q F3 H3 (.bl (f i j && g j k)) ((u.trans u2).trans u3) (.bl _)
      rw [hf] at this
      exact this
    | false =>
      show Q (.bl false) H2
      have := q F2 H2 (.bl (f i j && g j k)) (u.trans u2) (.bl _)
      rw [hf] at this
      exact this⟩
theorem ex_leLe {a b c : Expr} {pos : Pos} {i j k : Int} (ha : EX X K G a (.int i)) (hb : EX X K G b (.int j)) (hc : EX X K G c (.int k)) (hm : lastMarks [.LtE, .LtE] [b, c] = false := by rfl) : EX X K G (.Compare a [.LtE, .LtE] [b, c] pos) (.bl (decide (i ≤ j) && decide (j ≤ k))) := ex_chainI (f := fun i j => decide (i ≤ j)) (g := fun i j => decide (i ≤ j)) (fun _ => op_le) (fun _ => op_le) ha hb hc hm
theorem ex_leLt {a b c : Expr} {pos : Pos} {i j k : Int} (ha : EX X K G a (.int i)) (hb : EX X K G b (.int j)) (hc : EX X K G c (.int k)) (hm : lastMarks [.LtE, .Lt] [b, c] = false := by rfl) : EX X K G (.Compare a [.LtE, .Lt] [b, c] pos) (.bl (decide (i ≤ j) && decide (j < k))) := ex_chainI (f := fun i j => decide (i ≤ j)) (g := fun i j => decide (i < j)) (fun _ => op_le) (fun _ => op_lt) ha hb hc hm
theorem ex_ltLt {a b c : Expr} {pos : Pos} {i j k : Int} (ha : EX X K G a (.int i)) (hb : EX X K G b (.int j)) (hc : EX X K G c (.int k)) (hm : lastMarks [.Lt, .Lt] [b, c] = false := by rfl) : EX X K G (.Compare a [.Lt, .Lt] [b, c] pos) (.bl (decide (i < j) && decide (j < k))) := ex_chainI (f := fun i j => decide (i < j)) (g := fun i j => decide (i < j)) (fun _ => op_lt) (fun _ => op_lt) ha hb hc hm

theorem eb_chainI {op op' : CmpOp} {f g : Int → Int → Bool} {a b c : Expr} {pos : Pos} {i j k : Int} (ho : ∀ n, OpR (X n) (compareOp op) (rI0 fun i j => .bl (f i j))) (ho' : ∀ n, OpR (X n) (compareOp op') (rI0 fun i j => .bl (g i j)))
    (ha : EX X K G a (.int i)) (hb : EX X K G b (.int j)) (hc : EX X K G c (.int k)) (hm : lastMarks [op, op'] [b, c] = false) : EB X K G (.Compare a [op, op'] [b, c] pos) (f i j && g j k) := fun F H σ fps Q e q =>
  ⟨fun σ H Q => tChain (rI0 fun i j => .bl (f i j)) (rI0 fun i j => .bl (g i j)) (wpE X a) (wpE X b) (wpE X c) σ H fun z H' => ∃ k, z = .bl k ∧ Q k H', fun n => pt_chain (ho n) (ho' n) (pe_wp n) (pe_wp n) (pe_wp n) hm, ha F H σ fps _ e fun F1 H1 v u r => hb F1 H1 σ fps _ (e.up u) fun F2 H2 v2 u2 r2 => by
    cases r; cases r2
    refine ⟨i, j, rfl, rfl, f i j, rfl, ?_⟩
    cases hf : f i j with
    | true =>
      show wpE X c σ H2 _
      refine hc F2 H2 σ fps _ ((e.up u).up u2) fun F3 H3 v3 u3 r3 => ?_
      cases r3
      refine ⟨j, k, rfl, rfl, ?_⟩
      have := q F3 H3 ((u.trans u2).trans u3)
      rw [hf] at this
      exact ⟨_, rfl, this⟩
    | false =>
      have := q F2 H2 (u.trans u2)
      rw [hf] at this
      exact ⟨_, rfl, this⟩⟩
theorem eb_leLe {a b c : Expr} {pos : Pos} {i j k : Int} (ha : EX X K G a (.int i)) (hb : EX X K G b (.int j)) (hc : EX X K G c (.int k)) (hm : lastMarks [.LtE, .LtE] [b, c] = false := by rfl) : EB X K G (.Compare a [.LtE, .LtE] [b, c] pos) (decide (i ≤ j) && decide (j ≤ k)) := eb_chainI (f := fun i j => decide (i ≤ j)) (g := fun i j => decide (i ≤ j)) (fun _ => op_le) (fun _ => op_le) ha hb hc hm
theorem eb_leLt {a b c : Expr} {pos : Pos} {i j k : Int} (ha : EX X K G a (.int i)) (hb : EX X K G b (.int j)) (hc : EX X K G c (.int k)) (hm : lastMarks [.LtE, .Lt] [b, c] = false := by rfl) : EB X K G (.Compare a [.LtE, .Lt] [b, c] pos) (decide (i ≤ j) && decide (j < k)) := eb_chainI (f := fun i j => decide (i ≤ j)) (g := fun i j => decide (i < j)) (fun _ => op_le) (fun _ => op_lt) ha hb hc hm
theorem eb_ltLt {a b c : Expr} {pos : Pos} {i j k : Int} (ha : EX X K G a (.int i)) (hb : EX X K G b (.int j)) (hc : EX X K G c (.int k)) (hm : lastMarks [.Lt, .Lt] [b, c] = false := by rfl) : EB X K G (.Compare a [.Lt, .Lt] [b, c] pos) (decide (i < j) && decide (j < k)) := eb_chainI (f := fun i j => decide (i < j)) (g := fun i j => decide (i < j)) (fun _ => op_lt) (fun _ => op_lt) ha hb hc hm

/-! ### constants of the module -/
theorem ex_gstr {x z : Str} {pos : Pos} (hg : ∀ j, Gl (X j) x) (hm : ∀ j, ∃ t, (X j).mg x = some (.str z t)) (hz : goodB z = true := by decide +kernel) (hd : (x == ("__debug__" : Str)) = false := by decide) : EX X K G (.Name x pos) (.str z) := fun F H σ fps Q e q =>
  ⟨tC (.str z), fun j => by
    obtain ⟨t, h⟩ := hm j
    exact pe_glob (hg j) h ⟨t, rfl⟩ hd, q F H _ (Up.refl e.sub) (.str z hz)⟩
theorem ex_gint {x : Str} {i : Int} {pos : Pos} (hg : ∀ j, Gl (X j) x) (hm : ∀ j, ∃ t, (X j).mg x = some (.int i t)) (hd : (x == ("__debug__" : Str)) = false := by decide) : EX X K G (.Name x pos) (.int i) := fun F H σ fps Q e q =>
  ⟨tC (.int i), fun j => by
    obtain ⟨t, h⟩ := hm j
    exact pe_glob (hg j) h ⟨t, rfl⟩ hd, q F H _ (Up.refl e.sub) (.int i)⟩

/-! ### slices -/
/-- a part of a slice -/
def EO (X : I → Cx) (K : PySem.W.Frag) (G : Env) (e : Option Expr) (o : Option Int) : Prop :=
  ∃ t : TO, (∀ i, PO (X i) e t) ∧ ∀ F H σ fps (Q : Option Int → Hp → Prop), EnvOk K F H σ G fps → (∀ F' H', Up F H F' H' → Q o H') → t σ H Q
theorem eo_none : EO X K G none none := ⟨tNoPart, fun _ => po_none, fun F H σ fps Q e q => q F H (Up.refl e.sub)⟩
theorem eo_some {e : Expr} {i : Int} (h : EX X K G e (.int i)) : EO X K G (some e) (some i) := ⟨tPart (wpE X e), fun j => po_some (pe_wp j), fun F H σ fps Q k q => h F H σ fps _ k fun F1 H1 v u r => by
  cases r
  exact ⟨i, rfl, q F1 H1 u⟩⟩
theorem len_cutS (z : Str) (lo hi : Option Int) : (cutS z lo hi).length ≤ z.length := by
  show (List.toArray _).size ≤ z.cps.size
  rw [List.size_toArray, List.length_take, List.length_drop, Array.length_toList]
  omega
theorem ex_sliceS {a : Expr} {lo hi : Option Expr} {p2 pos : Pos} {s : Str} {l h : Option Int} (ha : EX X K G a (.str s)) (hl : EO X K G lo l) (hh : EO X K G hi h) : EX X K G (.Subscript a (.Slice lo hi none p2) pos) (.str (cutS s l h)) := fun F H σ fps Q k q => by
  obtain ⟨tl, l1, l2⟩ := hl
  obtain ⟨th, h1, h2⟩ := hh
  refine ⟨tSl rSlS (wpE X a) tl th, fun j => pe_slice sl_str (pe_wp j) (l1 j) (h1 j), ha F H σ fps _ k fun F1 H1 v u r => l2 F1 H1 σ fps _ (k.up u) fun F2 H2 u2 => h2 F2 H2 σ fps _ ((k.up u).up u2) fun F3 H3 u3 => ?_⟩
  cases r with
  | str _ z => exact ⟨s, rfl, good_line z, q F3 H3 _ ((u.trans u2).trans u3) (.str _ (good_sub z (len_cutS s l h) fun c hc => List.mem_of_mem_drop (List.mem_of_mem_take (show c ∈ ((s.cps.toList.drop _).take _) from hc))))⟩
theorem cutV_len {A : Type} (xs : List A) (lo hi : Option Int) : ((xs.drop (HT.sIx xs.length 0 lo)).take (HT.sIx xs.length xs.length hi - HT.sIx xs.length 0 lo)).length ≤ xs.length := by
  rw [List.length_take, List.length_drop]; omega
/-- the data of a slice -/
def cut {A : Type} (xs : List A) (lo hi : Option Int) : List A := (xs.drop (HT.sIx xs.length 0 lo)).take (HT.sIx xs.length xs.length hi - HT.sIx xs.length 0 lo)
theorem cut_map {A B : Type} (f : A → B) (xs : List A) (lo hi : Option Int) : cut (xs.map f) lo hi = (cut xs lo hi).map f := by
  unfold cut
  rw [List.length_map, ← List.map_drop, ← List.map_take]
theorem en_sliceL {a : Expr} {lo hi : Option Expr} {p2 pos : Pos} {ds : List Dt} {l h : Option Int} (hK : ∀ j, (X j).K = K) (ha : ES X K G a false ds) (hl : EO X K G lo l) (hh : EO X K G hi h) : EN X K G (.Subscript a (.Slice lo hi none p2) pos) (.ol (cut ds l h)) := fun F H σ fps Q k q => by
  obtain ⟨tl, l1, l2⟩ := hl
  obtain ⟨th, h1, h2⟩ := hh
  refine ⟨tSl (rSlL K) (wpE X a) tl th, fun j => pe_slice (hK j ▸ sl_list) (pe_wp j) (l1 j) (h1 j), ha F H σ fps _ k fun F1 H1 p vs u r z rl => l2 F1 H1 σ fps _ (k.up u) fun F2 H2 u2 => h2 F2 H2 σ fps _ ((k.up u).up u2) fun F3 H3 u3 => ?_⟩
  have u23 := u2.trans u3
  refine ⟨p, vs, rfl, Ex.sql u23.hp (by simpa using r), fun D hD => ?_⟩
  have e1 : RepL K F3 (cutV vs l h) (cut ds l h) := by
    unfold cutV cut
    rw [rl.len]
    exact ((rl.mono u23.fr).drop _).take _
  have n0 : H D = none := (u.trans u23).hp.free hD
  refine q F3 (upd H3 D (.lst (cutV vs l h))) (.ref D) [D] ((u.trans u23).trans (Up.layH u3.sb hD)) (.ol upd_same ?_ e1) fun a ha => ?_
  · unfold cutV
    exact Nat.le_trans (cutV_len vs l h) z
  · obtain rfl : a = D := by simpa using ha
    exact ⟨n0, u3.sb.none hD, by rw [upd_same]; simp⟩
/-- xs + ys, two lists -/
theorem en_catL {a b : Expr} {pos : Pos} {ds es : List Dt} (ha : EX X K G a (.lst ds)) (hb : EX X K G b (.lst es)) (hn : ds.length + es.length ≤ big) : EN X K G (.BinOp a .Add b pos) (.ol (ds ++ es)) := fun F H σ fps Q k q =>
  ⟨tOp rCat (wpE X a) (wpE X b), fun j => pe_op op_cat (pe_wp j) (pe_wp j), ha F H σ fps _ k fun F1 H1 v u r => hb F1 H1 σ fps _ (k.up u) fun F2 H2 w u2 r2 => by
    cases r with
    | lst h1 l1 r1 => cases r2 with
      | lst h2 l2 r2 =>
        rename_i a vs b ws
        have hl : vs.length + ws.length ≤ big := by rw [r1.len, r2.len]; exact hn
        refine ⟨a, b, vs, ws, rfl, rfl, u2.hp _ _ (u.sb.lst h1), u2.sb.lst h2, Nat.le_trans hl big_line, fun D hD => ?_⟩
        have n0 : H D = none := (u.trans u2).hp.free hD
        refine q F2 (upd H2 D (.lst (vs ++ ws))) (.ref D) [D] ((u.trans u2).trans (Up.layH u2.sb hD)) (.ol upd_same (by rw [List.length_append]; exact hl) ((r1.mono u2.fr).append r2)) fun a ha => ?_
        obtain rfl : a = D := by simpa using ha
        exact ⟨n0, u2.sb.none hD, by rw [upd_same]; simp⟩⟩
/-- list(xs), tuple(xs) -/
theorem en_list {e : Expr} {p pos : Pos} {tu : Bool} {ds : List Dt} (hK : ∀ j, (X j).K = K) (h : ES X K G e tu ds) (hg : ∀ j, Gl (X j) "list") (hm : ∀ j, (X j).mg "list" = none)
    (he : ∀ j, starEach [e] (X j).env = [(false, eval e (X j).env)] := by intro _; rfl) : EN X K G (.Call (.Name "list" p) [e] [] pos) (.ol ds) := fun F H σ fps Q k q =>
  ⟨tCB (fun xs H Q => ∃ p ys, xs = [V.ref p] ∧ (SqL K H p ys ∨ SqT K H p ys) ∧ ∀ l, H l = none → Q (.ref l) (upd H l (.lst ys))) (tCons (wpE X e) tNil), fun j => hK j ▸ pe_callTy call_list_of (hg j) (hm j) (by decide +kernel) (pa_cons (pe_wp j) pa_nil (he j)) (by decide) (by decide) (he j) rfl, h F H σ fps _ k fun F1 H1 p vs u r l rl => by
    refine ⟨p, vs, rfl, ?_, fun D hD => ?_⟩
    · cases tu with
      | true => exact .inr r
      | false => exact .inl r
    · have n0 : H D = none := u.hp.free hD
      refine q F1 (upd H1 D (.lst vs)) (.ref D) [D] (u.trans (Up.layH u.sb hD)) (.ol upd_same l rl) fun a ha => ?_
      obtain rfl : a = D := by simpa using ha
      exact ⟨n0, u.sb.none hD, by rw [upd_same]; simp⟩⟩
theorem ex_tupL {e : Expr} {p pos : Pos} {ds : List Dt} (hK : ∀ j, (X j).K = K) (h : ES X K G e false ds) (hg : ∀ j, Gl (X j) "tuple") (hm : ∀ j, (X j).mg "tuple" = none)
    (he : ∀ j, starEach [e] (X j).env = [(false, eval e (X j).env)] := by intro _; rfl) : EX X K G (.Call (.Name "tuple" p) [e] [] pos) (.tup ds) := fun F H σ fps Q k q =>
  ⟨tCB (fun xs H Q => ∃ p ys, xs = [V.ref p] ∧ ((SqL K H p ys ∧ ∀ l, H l = none → Q (.ref l) (upd H l (.tup ys))) ∨ (SqT K H p ys ∧ Q (.ref p) H))) (tCons (wpE X e) tNil), fun j => hK j ▸ pe_callTy call_tuple_of (hg j) (hm j) (by decide +kernel) (pa_cons (pe_wp j) pa_nil (he j)) (by decide) (by decide) (he j) rfl, h F H σ fps _ k fun F1 H1 p vs u r l rl => by
    refine ⟨p, vs, rfl, .inl ⟨by simpa using r, fun D hD => ?_⟩⟩
    exact q (upd F1 D (.tup vs)) (upd H1 D (.tup vs)) _ (u.trans (Up.lay u.sb hD)) (.tup upd_same l (rl.mono (Ex.new (u.sb.none hD))))⟩

/-! ### methods of texts -/
theorem ex_m1 {o e : Expr} {name : Str} {id : String} {apos pos : Pos} {r : V → List V → Hp → VK → Prop} {s : Str} {d z : Dt} (slot : Slot "str" name id) (ty : typeOf (.builtin id) = pure (.type "method_descriptor")) (rule : ∀ j, MtR (X j) id r) (ho : EX X K G o (.str s)) (he : EX X K G e d)
    (hr : ∀ F H w (Q : VK), Sub F H → Rep K F w d → goodB s = true → (∀ F' H' u, Up F H F' H' → Rep K F' u z → Q u H') → r (.str s) [w] H Q)
    (hT : ∀ j, PE (X j) (.Call (.Attribute o name apos) [e] [] pos) (tM1 r (wpE X o) (wpE X e))) : EX X K G (.Call (.Attribute o name apos) [e] [] pos) z := fun F H σ fps Q k q =>
  ⟨tM1 r (wpE X o) (wpE X e), hT, ho F H σ fps _ k fun F1 H1 v u r1 => by
    cases r1 with
    | str _ l => exact ⟨⟨s, rfl⟩, he F1 H1 σ fps _ (k.up u) fun F2 H2 w u2 r2 => hr F2 H2 w Q u2.sb r2 l fun F3 H3 x u3 r3 => q F3 H3 x ((u.trans u2).trans u3) r3⟩⟩
end
end Vs

/-! Short words for printed proofs. -/
namespace Vs
open PySem PySem.Spec L2
section
variable {I : Type} {X : I → Cx} {K : PySem.W.Frag} {G : Env}
theorem xv (i : Nat) {x : Str} {pos : Pos} {d : Dt} (hg : G[i]? = some (some (.fz d))) (hN : ∀ j, (X j).N[i]? = some x := by intro _; rfl) (hv : ∀ j, Vis (X j).env.scope x := by intro _; first | exact Or.inl rfl | exact Or.inr (Or.inl rfl) | exact Or.inr (Or.inr rfl))
    (hd : (x == ("__debug__" : Str)) = false := by decide) (hcd : (x == ("__classdict__" : Str)) = false := by decide) : EX X K G (.Name x pos) d := ex_var hg hN hv hd hcd
theorem sv (i : Nat) {x : Str} {pos : Pos} {ds : List Dt} (hg : G[i]? = some (some (.ol ds))) (hN : ∀ j, (X j).N[i]? = some x := by intro _; rfl) (hv : ∀ j, Vis (X j).env.scope x := by intro _; first | exact Or.inl rfl | exact Or.inr (Or.inl rfl) | exact Or.inr (Or.inr rfl))
    (hd : (x == ("__debug__" : Str)) = false := by decide) (hcd : (x == ("__classdict__" : Str)) = false := by decide) : ES X K G (.Name x pos) false ds := es_var hg hN hv hd hcd
/-- an own dict, a text's sign, .. by their words -/
def sgn (s : Str) (i : Int) : Str := ⟨#[(atI s.cps.toList i).getD 0]⟩
theorem x_ixS {a b : Expr} {pos : Pos} {s : Str} {i : Int} (ha : EX X K G a (.str s)) (hb : EX X K G b (.int i)) (hi : (atI s.cps.toList i).isSome = true) (hs : PlainIx b := by exact fun _ _ => rfl) : EX X K G (.Subscript a b pos) (.str (sgn s i)) := by
  cases e : atI s.cps.toList i with
  | none => rw [e] at hi; cases hi
  | some c =>
    have : sgn s i = ⟨#[c]⟩ := by unfold sgn; rw [e]; rfl
    rw [this]
    exact ex_ixS ha hb e hs
/-- the item at a place -/
def itm {A : Type} [Inhabited A] (xs : List A) (i : Int) : A := (atI xs i).getD default
def inI {A : Type} (xs : List A) (i : Int) : Bool := (ixN xs.length i).isSome
theorem ixN_lt {n : Nat} {i : Int} {j : Nat} (h : ixN n i = some j) : j < n := (ixN_seq h).2.1
theorem atI_map {A B : Type} (f : A → B) (xs : List A) (i : Int) : atI (xs.map f) i = (atI xs i).map f := by
  unfold atI
  rw [List.length_map]
  cases e : ixN xs.length i with
  | none => rfl
  | some j =>
    show (xs.map f)[j]? = (xs[j]?).map f
    rw [List.getElem?_map]
theorem atI_itm {A : Type} [Inhabited A] {xs : List A} {i : Int} (h : inI xs i = true) : atI xs i = some (itm xs i) := by
  unfold inI at h
  unfold itm atI
  cases e : ixN xs.length i with
  | none => rw [e] at h; cases h
  | some j =>
    have hj := ixN_lt e
    show xs[j]? = some ((xs[j]?).getD default)
    rw [List.getElem?_eq_getElem hj]
    rfl
theorem x_ix {A : Type} [Inhabited A] {a b : Expr} {pos : Pos} {tu : Bool} {xs : List A} {i : Int} (f : A → Dt) (hK : ∀ j, (X j).K = K) (ha : ES X K G a tu (xs.map f)) (hb : EX X K G b (.int i)) (hi : inI xs i = true) (hs : PlainIx b := by exact fun _ _ => rfl) : EX X K G (.Subscript a b pos) (f (itm xs i)) :=
  ex_ix hK ha hb (by rw [atI_map, atI_itm hi]; rfl) hs
/-- the written place of a tuple -/
theorem x_ixT {a b : Expr} {pos : Pos} {tu : Bool} {ds : List Dt} {i : Int} {d : Dt} (hK : ∀ j, (X j).K = K) (ha : ES X K G a tu ds) (hb : EX X K G b (.int i)) (hi : atI ds i = some d := by rfl) (hs : PlainIx b := by exact fun _ _ => rfl) : EX X K G (.Subscript a b pos) d :=
  ex_ix hK ha hb hi hs
end
section
variable {X : Cx} {K : PySem.W.Frag} {W : WX} {sv : Sv} {G : Env} {rest : List Stmt} {o : Out} {pos : Pos}
/-- x = e, what follows told of any value with P -/
theorem run_asgP {B : Type} {i : Nat} {x : Str} {e : Expr} {pos' : Pos} {v : B} (enc : B → Dt) (oF : B → Out) (P : B → Prop) (h : EX (one X) K G e (enc v)) (hp : P v) (hN : X.N.Nodup) (k : ∀ y, P y → Run X K W sv rest (G.set i (some (.fz (enc y)))) (oF y))
    (hi : X.N[i]? = some x := by rfl) (hx : Loc X.env.scope x := by first | exact Or.inl rfl | exact Or.inr rfl) (hl : Nat.blt i G.length = true := by rfl) (hv : memN sv.ks i = false := by rfl)
    (hs : swapsWith e (some (.Name x pos')) pos.line X.env = pure false := by rfl) (hf : X.fn x = true ∨ X.env.scope.names.lookup x = some .local := by first | exact .inl rfl | exact .inr rfl | assumption) (ho : oF v = o := by rfl) :
    Run X K W sv (.Assign [.Name x pos'] e pos :: rest) G o := ho ▸ run_asg h hN hi hx (Nat.blt_eq.mp hl) hv (k v hp) hs hf
theorem run_asgD {i : Nat} {x : Str} {e : Expr} {pos' : Pos} {d : Dt} (h : EX (one X) K G e d) (hN : X.N.Nodup) (k : Run X K W sv rest (G.set i (some (.fz d))) o)
    (hi : X.N[i]? = some x := by rfl) (hx : Loc X.env.scope x := by first | exact Or.inl rfl | exact Or.inr rfl) (hl : Nat.blt i G.length = true := by rfl) (hv : memN sv.ks i = false := by rfl)
    (hs : swapsWith e (some (.Name x pos')) pos.line X.env = pure false := by rfl) (hf : X.fn x = true ∨ X.env.scope.names.lookup x = some .local := by first | exact .inl rfl | exact .inr rfl | assumption) :
    Run X K W sv (.Assign [.Name x pos'] e pos :: rest) G o := run_asg h hN hi hx (Nat.blt_eq.mp hl) hv k hs hf
/-- x = e, e a new list -/
theorem run_asgL {B : Type} {i : Nat} {x : Str} {e : Expr} {pos' : Pos} {v : B} (enc : B → List Dt) (oF : B → Out) (P : B → Prop) (h : EN (one X) K G e (.ol (enc v))) (hp : P v) (hN : X.N.Nodup) (k : ∀ y, P y → Run X K W sv rest (G.set i (some (.ol (enc y)))) (oF y))
    (hi : X.N[i]? = some x := by rfl) (hx : Loc X.env.scope x := by first | exact Or.inl rfl | exact Or.inr rfl) (hl : Nat.blt i G.length = true := by rfl) (hv : memN sv.ks i = false := by rfl)
    (hs : swapsWith e (some (.Name x pos')) pos.line X.env = pure false := by rfl) (hf : X.fn x = true ∨ X.env.scope.names.lookup x = some .local := by first | exact .inl rfl | exact .inr rfl | assumption) (ho : oF v = o := by rfl) :
    Run X K W sv (.Assign [.Name x pos'] e pos :: rest) G o := ho ▸ run_asgN h hN hi hx (Nat.blt_eq.mp hl) hv (k v hp) hs hf
end
end Vs

/-! Typed words: what a printed proof names. -/
namespace Vs
open PySem PySem.Spec L2

/-! ### options -/
def encO {A : Type} (f : A → Dt) : Option A → Dt
  | none => .non
  | some x => f x
def isNo {A : Type} : Option A → Bool
  | none => true
  | some _ => false
section
variable {I : Type} {X : I → Cx} {K : PySem.W.Frag} {G : Env}
theorem encO_non {A : Type} (f : A → Dt) (h : ∀ x, (f x).isNon = false) : ∀ o : Option A, (encO f o).isNon = isNo o
  | none => rfl
  | some x => h x
theorem says_isO {A : Type} (f : A → Dt) (h : ∀ x, (f x).isNon = false) {o : Option A} : Says X K .Is (encO f o) .non (isNo o) := by
  rw [← encO_non f h o]; exact says_isN
theorem says_notO {A : Type} (f : A → Dt) (h : ∀ x, (f x).isNon = false) {o : Option A} : Says X K .IsNot (encO f o) .non (!isNo o) := by
  rw [← encO_non f h o]; exact says_notN
theorem EN.isL {e : Expr} {ds ds' : List Dt} (h : EN X K G e (.ol ds)) (q : ds = ds') : EN X K G e (.ol ds') := q ▸ h
/-! ### lists -/
theorem x_catL {A : Type} {a b : Expr} {pos : Pos} {xs ys : List A} (f : A → Dt) (ha : EX X K G a (.lst (xs.map f))) (hb : EX X K G b (.lst (ys.map f))) (hn : xs.length + ys.length ≤ big) : EN X K G (.BinOp a .Add b pos) (.ol ((xs ++ ys).map f)) :=
  EN.isL (en_catL ha hb (by rw [List.length_map, List.length_map]; exact hn)) (by rw [List.map_append])
theorem x_sliceL {A : Type} {a : Expr} {lo hi : Option Expr} {p2 pos : Pos} {xs : List A} {l h : Option Int} (f : A → Dt) (hK : ∀ j, (X j).K = K) (ha : ES X K G a false (xs.map f)) (hl : EO X K G lo l) (hh : EO X K G hi h) : EN X K G (.Subscript a (.Slice lo hi none p2) pos) (.ol ((cut xs l h).map f)) :=
  EN.isL (en_sliceL hK ha hl hh) (cut_map f xs l h)
theorem x_len {A : Type} {e : Expr} {p pos : Pos} {tu : Bool} {xs : List A} (f : A → Dt) (hK : ∀ j, (X j).K = K) (h : ES X K G e tu (xs.map f)) (hg : ∀ j, Gl (X j) "len") (hm : ∀ j, (X j).mg "len" = none)
    (he : ∀ j, starEach [e] (X j).env = [(false, eval e (X j).env)] := by intro _; rfl) : EX X K G (.Call (.Name "len" p) [e] [] pos) (.int xs.length) :=
  (ex_len hK h hg hm he).is (by rw [List.length_map])
/-! ### in a list -/
theorem repL_str {F : Hp} : ∀ {xs : List Str} {vs : List V}, RepL K F vs (xs.map Dt.str) → vs = xs.map V.str
  | [], _, .nil => rfl
  | _ :: xs, _, .cons h r => by
    cases h
    rw [repL_str r, List.map_cons]
theorem repL_int {F : Hp} : ∀ {xs : List Int} {vs : List V}, RepL K F vs (xs.map Dt.int) → vs = xs.map V.int
  | [], _, .nil => rfl
  | _ :: xs, _, .cons h r => by
    cases h
    rw [repL_int r, List.map_cons]
theorem repL_bl {F : Hp} : ∀ {xs : List Bool} {vs : List V}, RepL K F vs (xs.map Dt.bl) → vs = xs.map V.bl
  | [], _, .nil => rfl
  | _ :: xs, _, .cons h r => by
    cases h
    rw [repL_bl r, List.map_cons]
theorem flat_map {A : Type} (g : A → V) (h : ∀ x, flatV (g x) = true) : ∀ xs : List A, (xs.map g).all flatV = true
  | [] => rfl
  | x :: xs => by rw [List.map_cons, List.all_cons, h x, flat_map g h xs]; rfl
theorem inV_str (x : Str) : ∀ xs : List Str, inV (.str x) (xs.map V.str) = xs.elem x
  | [] => rfl
  | y :: ys => by
    have ih := inV_str x ys
    unfold inV at ih ⊢
    rw [List.map_cons, List.any_cons, ih, List.elem_cons]
    have e : eqV (V.str y) (V.str x) = (x == y) := by
      show (y == x) = (x == y)
      exact BEq.comm
    rw [e]
    cases x == y <;> rfl
/-- membership -/
theorem ex_in {op : CmpOp} {neg : Bool} {e l : Expr} {pos : Pos} {tu : Bool} {ds : List Dt} {d : Dt} {b : Bool} (ho : ∀ j, OpR (X j) (compareOp op) (rIn K neg)) (ha : EX X K G e d) (hb : ES X K G l tu ds) (hm : behindInMarks op l = false)
    (hr : ∀ F v vs, Rep K F v d → RepL K F vs ds → flatV v = true ∧ vs.all flatV = true ∧ inV v vs = b) : EX X K G (.Compare e [op] [l] pos) (.bl (if neg then !b else b)) := fun F H σ fps Q k q =>
  ⟨tOp (rIn K neg) (wpE X e) (wpE X l), fun j => pe_cmpR (ho j) (pe_wp j) (pe_wp j) hm, ha F H σ fps _ k fun F1 H1 v u1 r1 => hb F1 H1 σ fps _ (k.up u1) fun F2 H2 p vs u2 r2 l2 rl => by
    obtain ⟨h1, h2, h3⟩ := hr F2 v vs (r1.mono u2.fr) rl
    refine ⟨p, vs, rfl, ?_, h1, h2, by rw [h3]; exact q F2 H2 _ (u1.trans u2) (.bl _)⟩
    cases tu with
    | true => exact .inr r2
    | false => exact .inl r2⟩
theorem eb_in {op : CmpOp} {neg : Bool} {e l : Expr} {pos : Pos} {tu : Bool} {ds : List Dt} {d : Dt} {b : Bool} (ho : ∀ j, OpR (X j) (compareOp op) (rIn K neg)) (ha : EX X K G e d) (hb : ES X K G l tu ds) (hm : behindInMarks op l = false)
    (hr : ∀ F v vs, Rep K F v d → RepL K F vs ds → flatV v = true ∧ vs.all flatV = true ∧ inV v vs = b) : EB X K G (.Compare e [op] [l] pos) (if neg then !b else b) := fun F H σ fps Q k q =>
  ⟨tTest (tOp (rIn K neg) (wpE X e) (wpE X l)), fun j => pt_cmpR (ho j) (pe_wp j) (pe_wp j) hm, ha F H σ fps _ k fun F1 H1 v u1 r1 => hb F1 H1 σ fps _ (k.up u1) fun F2 H2 p vs u2 r2 l2 rl => by
    obtain ⟨h1, h2, h3⟩ := hr F2 v vs (r1.mono u2.fr) rl
    refine ⟨p, vs, rfl, ?_, h1, h2, by rw [h3]; exact ⟨_, rfl, q F2 H2 (u1.trans u2)⟩⟩
    cases tu with
    | true => exact .inr r2
    | false => exact .inl r2⟩
theorem inStr {x : Str} {xs : List Str} (F : Hp) (v : V) (vs : List V) (r : Rep K F v (.str x)) (rl : RepL K F vs (xs.map Dt.str)) : flatV v = true ∧ vs.all flatV = true ∧ inV v vs = xs.elem x := by
  cases r
  rw [repL_str rl]
  exact ⟨rfl, flat_map V.str (fun _ => rfl) xs, inV_str x xs⟩
theorem xx_inS {e l : Expr} {pos : Pos} {tu : Bool} {x : Str} {xs : List Str} (hK : ∀ j, (X j).K = K) (ha : EX X K G e (.str x)) (hb : ES X K G l tu (xs.map Dt.str)) (hm : behindInMarks .In l = false := by rfl) : EX X K G (.Compare e [.In] [l] pos) (.bl (xs.elem x)) :=
  ex_in (neg := false) (fun j => hK j ▸ op_in_seq) ha hb hm (fun F v vs r rl => inStr F v vs r rl)
theorem xx_niS {e l : Expr} {pos : Pos} {tu : Bool} {x : Str} {xs : List Str} (hK : ∀ j, (X j).K = K) (ha : EX X K G e (.str x)) (hb : ES X K G l tu (xs.map Dt.str)) (hm : behindInMarks .NotIn l = false := by rfl) : EX X K G (.Compare e [.NotIn] [l] pos) (.bl (!xs.elem x)) :=
  ex_in (neg := true) (fun j => hK j ▸ op_notIn_seq) ha hb hm (fun F v vs r rl => inStr F v vs r rl)
theorem xb_inS {e l : Expr} {pos : Pos} {tu : Bool} {x : Str} {xs : List Str} (hK : ∀ j, (X j).K = K) (ha : EX X K G e (.str x)) (hb : ES X K G l tu (xs.map Dt.str)) (hm : behindInMarks .In l = false := by rfl) : EB X K G (.Compare e [.In] [l] pos) (xs.elem x) :=
  eb_in (neg := false) (fun j => hK j ▸ op_in_seq) ha hb hm (fun F v vs r rl => inStr F v vs r rl)
theorem xb_niS {e l : Expr} {pos : Pos} {tu : Bool} {x : Str} {xs : List Str} (hK : ∀ j, (X j).K = K) (ha : EX X K G e (.str x)) (hb : ES X K G l tu (xs.map Dt.str)) (hm : behindInMarks .NotIn l = false := by rfl) : EB X K G (.Compare e [.NotIn] [l] pos) (!xs.elem x) :=
  eb_in (neg := true) (fun j => hK j ▸ op_notIn_seq) ha hb hm (fun F v vs r rl => inStr F v vs r rl)

/-! ### methods of texts -/
theorem x_startswith {o e : Expr} {apos pos : Pos} {s t : Str} (ho : EX X K G o (.str s)) (he : EX X K G e (.str t)) (hs : ∀ j, starEach [e] (X j).env = [(false, eval e (X j).env)] := by intro _; rfl) (hbase : ∀ j, attributeBase o "startswith" (X j).env (eval o (X j).env) = eval o (X j).env := by intro _; rfl) (hline : (apos.endLine == pos.line) = true := by rfl) :
    EX X K G (.Call (.Attribute o "startswith" apos) [e] [] pos) (.bl (Txt.startswith s t)) := ex_m1 PySem.F.slot_str_startswith PySem.F.type_str_startswith (fun _ => mt_startswith) ho he (fun F H w Q u r g q => by
  cases r
  exact ⟨s, t, rfl, rfl, q F H _ (Up.refl u) (.bl _)⟩) fun j => pe_m1 PySem.F.slot_str_startswith PySem.F.type_str_startswith mt_startswith (pe_wp j) (pe_wp j) (hs j) (hbase j) hline
theorem x_endswith {o e : Expr} {apos pos : Pos} {s t : Str} (ho : EX X K G o (.str s)) (he : EX X K G e (.str t)) (hs : ∀ j, starEach [e] (X j).env = [(false, eval e (X j).env)] := by intro _; rfl) (hbase : ∀ j, attributeBase o "endswith" (X j).env (eval o (X j).env) = eval o (X j).env := by intro _; rfl) (hline : (apos.endLine == pos.line) = true := by rfl) :
    EX X K G (.Call (.Attribute o "endswith" apos) [e] [] pos) (.bl (Txt.endswith s t)) := ex_m1 PySem.F.slot_str_endswith PySem.F.type_str_endswith (fun _ => mt_endswith) ho he (fun F H w Q u r g q => by
  cases r
  exact ⟨s, t, rfl, rfl, q F H _ (Up.refl u) (.bl _)⟩) fun j => pe_m1 PySem.F.slot_str_endswith PySem.F.type_str_endswith mt_endswith (pe_wp j) (pe_wp j) (hs j) (hbase j) hline
theorem x_find {o e : Expr} {apos pos : Pos} {s t : Str} (ho : EX X K G o (.str s)) (he : EX X K G e (.str t)) (hs : ∀ j, starEach [e] (X j).env = [(false, eval e (X j).env)] := by intro _; rfl) (hbase : ∀ j, attributeBase o "find" (X j).env (eval o (X j).env) = eval o (X j).env := by intro _; rfl) (hline : (apos.endLine == pos.line) = true := by rfl) :
    EX X K G (.Call (.Attribute o "find" apos) [e] [] pos) (.int (Txt.find s t)) := ex_m1 PySem.F.slot_str_find PySem.F.type_str_find (fun _ => mt_find) ho he (fun F H w Q u r g q => by
  cases r
  exact ⟨s, t, rfl, rfl, q F H _ (Up.refl u) (.int _)⟩) fun j => pe_m1 PySem.F.slot_str_find PySem.F.type_str_find mt_find (pe_wp j) (pe_wp j) (hs j) (hbase j) hline
end
theorem spl_parts (S : List Nat) : ∀ (l : List Nat) (k : Nat) (acc : List Nat), (TL.spl S k acc l).length ≤ l.length + 1 ∧ ∀ p ∈ TL.spl S k acc l, p.length ≤ acc.length + l.length ∧ ∀ c ∈ p, c ∈ acc ∨ c ∈ l
  | [], k, acc => by
    rw [TL.spl_nil]
    refine ⟨Nat.le_refl _, fun p hp => ?_⟩
    obtain rfl : p = acc := by simpa using hp
    exact ⟨by simp, fun c hc => .inl hc⟩
  | c :: r, 0, acc => by
    cases h : TL.pre S (c :: r) with
    | true =>
      rw [TL.spl_hit h]
      obtain ⟨h1, h2⟩ := spl_parts S r (S.length - 1) []
      refine ⟨by simp only [List.length_cons]; omega, fun p hp => ?_⟩
      rcases List.mem_cons.mp hp with rfl | hp
      · exact ⟨by omega, fun c hc => .inl hc⟩
      · obtain ⟨h3, h4⟩ := h2 p hp
        simp only [List.length_nil, List.length_cons] at h3 ⊢
        exact ⟨by omega, fun d hd => .inr (List.mem_cons_of_mem _ ((h4 d hd).elim (fun z => by simp at z) id))⟩
    | false =>
      rw [TL.spl_miss h]
      obtain ⟨h1, h2⟩ := spl_parts S r 0 (acc ++ [c])
      refine ⟨by simp only [List.length_cons]; omega, fun p hp => ?_⟩
      obtain ⟨h3, h4⟩ := h2 p hp
      simp only [List.length_append, List.length_cons, List.length_nil] at h3 ⊢
      refine ⟨by omega, fun d hd => ?_⟩
      rcases h4 d hd with z | z
      · rcases List.mem_append.mp z with z | z
        · exact .inl z
        · exact .inr (by simp at z; simp [z])
      · exact .inr (List.mem_cons_of_mem _ z)
  | c :: r, k + 1, acc => by
    obtain ⟨h1, h2⟩ := spl_parts S r k acc
    have e : TL.spl S (k + 1) acc (c :: r) = TL.spl S k acc r := rfl
    rw [e]
    refine ⟨by simp only [List.length_cons]; omega, fun p hp => ?_⟩
    obtain ⟨h3, h4⟩ := h2 p hp
    simp only [List.length_cons]
    exact ⟨by omega, fun d hd => (h4 d hd).elim .inl fun z => .inr (List.mem_cons_of_mem _ z)⟩
def sepOk (y : Str) : Bool := !(y.length == 0) && y.cps.all (· < 256)
theorem sep_ne {y : Str} (h : sepOk y = true) : (y.length == 0) = false ∧ TL.tl y ≠ [] := by
  have h1 := (Bool.and_eq_true_iff.mp h).1
  have h2 : (y.length == 0) = false := by simpa using h1
  refine ⟨h2, fun e => ?_⟩
  have : y.length = 0 := by rw [TL.len_tl, e]; rfl
  rw [this] at h2; cases h2
theorem split_good {x y : Str} (hx : goodB x = true) (hy : sepOk y = true) : (Txt.split x y).length ≤ big ∧ ∀ p ∈ Txt.split x y, goodB p = true := by
  have e := TL.split_spl x y (sep_ne hy).2 (TL.kind_ok (Bool.and_eq_true_iff.mp hy).2)
  obtain ⟨h1, h2⟩ := spl_parts (TL.tl y) (TL.tl x) 0 []
  rw [← e] at h1 h2
  have hl := good_len hx
  rw [TL.len_tl] at hl
  refine ⟨?_, fun p hp => ?_⟩
  · rw [List.length_map] at h1
    have : bigS + 1 ≤ big := by decide
    omega
  · obtain ⟨h3, h4⟩ := h2 (TL.tl p) (List.mem_map.mpr ⟨p, hp, rfl⟩)
    refine good_sub hx ?_ fun c hc => (h4 c hc).elim (fun z => by simp at z) id
    rw [TL.len_tl, TL.len_tl x]
    simpa using h3
theorem par_parts (S : List Nat) : ∀ (l acc a b : List Nat), TL.par S acc l = some (a, b) → (a.length ≤ acc.length + l.length ∧ ∀ c ∈ a, c ∈ acc ∨ c ∈ l) ∧ (b.length ≤ l.length ∧ ∀ c ∈ b, c ∈ l)
  | [], acc, a, b, h => by cases h
  | c :: r, acc, a, b, h => by
    unfold TL.par at h
    split at h
    · cases h
      exact ⟨⟨by omega, fun c hc => .inl hc⟩, by rw [List.length_drop]; omega, fun d hd => List.mem_of_mem_drop hd⟩
    · obtain ⟨⟨h1, h2⟩, h3, h4⟩ := par_parts S r (acc ++ [c]) a b h
      simp only [List.length_append, List.length_cons, List.length_nil] at h1 h3 ⊢
      refine ⟨⟨by omega, fun d hd => ?_⟩, by omega, fun d hd => List.mem_cons_of_mem _ (h4 d hd)⟩
      rcases h2 d hd with z | z
      · rcases List.mem_append.mp z with z | z
        · exact .inl z
        · exact .inr (by simp at z; simp [z])
      · exact .inr (List.mem_cons_of_mem _ z)
theorem partition_good {x y : Str} (hx : goodB x = true) (hy : goodB y = true) (hs : sepOk y = true) : goodB (Txt.partition x y).1 = true ∧ goodB (Txt.partition x y).2.1 = true ∧ goodB (Txt.partition x y).2.2 = true := by
  rw [TL.partition_par x y (sep_ne hs).2]
  cases h : TL.par (TL.tl y) [] (TL.tl x) with
  | none =>
    have e0 : goodB Str.empty = true := by decide +kernel
    exact ⟨hx, e0, e0⟩
  | some ab =>
    obtain ⟨a, b⟩ := ab
    obtain ⟨⟨h1, h2⟩, h3, h4⟩ := par_parts _ _ _ _ _ h
    refine ⟨good_sub hx ?_ fun c hc => (h2 c hc).elim (fun z => by simp at z) id, hy, good_sub hx ?_ fun c hc => h4 c hc⟩
    · rw [TL.len_tl, TL.len_tl x]; simpa using h1
    · rw [TL.len_tl, TL.len_tl x]; exact h3
theorem joinL_parts (S : List Nat) : ∀ ps : List (List Nat), (TL.joinL S ps).length ≤ (ps.map List.length).sum + ps.length * S.length ∧ ∀ c ∈ TL.joinL S ps, c ∈ S ∨ ∃ p ∈ ps, c ∈ p
  | [] => ⟨by simp [TL.joinL], fun c hc => by simp [TL.joinL] at hc⟩
  | [p] => ⟨by simp [TL.joinL], fun c hc => .inr ⟨p, by simp, hc⟩⟩
  | p :: q :: r => by
    obtain ⟨h1, h2⟩ := joinL_parts S (q :: r)
    have e : TL.joinL S (p :: q :: r) = p ++ (S ++ TL.joinL S (q :: r)) := rfl
    rw [e]
    refine ⟨?_, fun c hc => ?_⟩
    · simp only [List.length_append, List.map_cons, List.sum_cons, List.length_cons, Nat.add_mul] at h1 ⊢
      omega
    · rcases List.mem_append.mp hc with z | z
      · exact .inr ⟨p, by simp, z⟩
      · rcases List.mem_append.mp z with z | z
        · exact .inl z
        · rcases h2 c z with z | ⟨p', h3, h4⟩
          · exact .inl z
          · exact .inr ⟨p', List.mem_cons_of_mem _ h3, h4⟩
def joinOk (a : Str) (ys : List Str) : Prop := (ys.map (·.length)).sum + ys.length * a.length ≤ bigS
theorem sum_tl : ∀ ys : List Str, ((ys.map TL.tl).map List.length).sum = (ys.map (·.length)).sum
  | [] => rfl
  | y :: ys => by
    simp only [List.map_cons, List.sum_cons, sum_tl ys]
    rw [TL.len_tl y]
theorem join_good {a : Str} {ys : List Str} (ha : goodB a = true) (hy : ∀ y ∈ ys, goodB y = true) (h : joinOk a ys) : goodB (Txt.join a ys) = true := by
  rw [TL.join_eq]
  obtain ⟨h1, h2⟩ := joinL_parts (TL.tl a) (ys.map TL.tl)
  rw [← TL.tl_join, List.length_map, sum_tl] at h1
  rw [← TL.tl_join] at h2
  refine good_iff.mpr ⟨?_, fun c hc => ?_⟩
  · rw [TL.len_tl]
    unfold joinOk at h
    rw [TL.len_tl a] at h
    omega
  · rcases h2 c hc with z | ⟨p, hp, z⟩
    · exact (good_iff.mp ha).2 c z
    · obtain ⟨y, hy1, rfl⟩ := List.mem_map.mp hp
      exact (good_iff.mp (hy y hy1)).2 c z
section
variable {I : Type} {X : I → Cx} {K : PySem.W.Frag} {G : Env}
theorem repStrs {F : Hp} : ∀ {xs : List Str}, (∀ x ∈ xs, goodB x = true) → RepL K F (xs.map V.str) (xs.map Dt.str)
  | [], _ => .nil
  | x :: xs, h => .cons (.str x (h x (by simp))) (repStrs fun y hy => h y (List.mem_cons_of_mem _ hy))
theorem repStrs_good {F : Hp} : ∀ {xs : List Str} {vs : List V}, RepL K F vs (xs.map Dt.str) → ∀ x ∈ xs, goodB x = true
  | [], _, .nil, x, h => by simp at h
  | y :: xs, _, .cons h r, x, hx => by
    rcases List.mem_cons.mp hx with rfl | hx
    · cases h with
      | str _ g => exact g
    · exact repStrs_good r x hx
theorem x_split {o e : Expr} {apos pos : Pos} {s t : Str} (ho : EX X K G o (.str s)) (he : EX X K G e (.str t)) (hy : sepOk t = true) (hs : ∀ j, starEach [e] (X j).env = [(false, eval e (X j).env)] := by intro _; rfl) (hbase : ∀ j, attributeBase o "split" (X j).env (eval o (X j).env) = eval o (X j).env := by intro _; rfl) (hline : (apos.endLine == pos.line) = true := by rfl) :
    EN X K G (.Call (.Attribute o "split" apos) [e] [] pos) (.ol ((Txt.split s t).map Dt.str)) := fun F H σ fps Q k q =>
  ⟨tM1 (fun x xs H Q => ∃ a b, x = .str a ∧ xs = [.str b] ∧ (b.length == 0) = false ∧ a.length + 2 ≤ sizeLine ∧ rNewStrs (Txt.split a b) H Q) (wpE X o) (wpE X e), fun j => pe_split (pe_wp j) (pe_wp j) (hs j) (hbase j) hline, ho F H σ fps _ k fun F1 H1 v u r => by
    cases r with
    | str _ g =>
      refine ⟨⟨s, rfl⟩, he F1 H1 σ fps _ (k.up u) fun F2 H2 w u2 r2 => ?_⟩
      cases r2
      obtain ⟨g1, g2⟩ := split_good g hy
      refine ⟨s, t, rfl, rfl, (sep_ne hy).1, ?_, fun p hp => ?_⟩
      · have := good_len g
        have : bigS + 2 ≤ sizeLine := by rw [sizeLine_eq]; decide
        omega
      · have n0 : H p = none := (u.trans u2).hp.free hp
        refine q F2 (upd H2 p (.lst ((Txt.split s t).map V.str))) (.ref p) [p] ((u.trans u2).trans (Up.layH u2.sb hp)) (.ol upd_same (by rw [List.length_map]; exact g1) (repStrs g2)) fun a ha => ?_
        obtain rfl : a = p := by simpa using ha
        exact ⟨n0, u2.sb.none hp, by rw [upd_same]; simp⟩⟩
theorem x_partition {o e : Expr} {apos pos : Pos} {s t : Str} (ho : EX X K G o (.str s)) (he : EX X K G e (.str t)) (hy : sepOk t = true) (hs : ∀ j, starEach [e] (X j).env = [(false, eval e (X j).env)] := by intro _; rfl) (hbase : ∀ j, attributeBase o "partition" (X j).env (eval o (X j).env) = eval o (X j).env := by intro _; rfl) (hline : (apos.endLine == pos.line) = true := by rfl) :
    EX X K G (.Call (.Attribute o "partition" apos) [e] [] pos) (.tup [.str (Txt.partition s t).1, .str (Txt.partition s t).2.1, .str (Txt.partition s t).2.2]) := fun F H σ fps Q k q =>
  ⟨tM1 _ (wpE X o) (wpE X e), fun j => pe_partition (pe_wp j) (pe_wp j) (hs j) (hbase j) hline, ho F H σ fps _ k fun F1 H1 v u r => by
    cases r with
    | str _ g =>
      refine ⟨⟨s, rfl⟩, he F1 H1 σ fps _ (k.up u) fun F2 H2 w u2 r2 => ?_⟩
      cases r2 with
      | str _ g' =>
        obtain ⟨g1, g2, g3⟩ := partition_good g g' hy
        refine ⟨s, t, rfl, rfl, (sep_ne hy).1, good_line g, fun p hp => ?_⟩
        exact q _ _ _ ((u.trans u2).trans (Up.lay u2.sb hp)) (.tup upd_same (by show 3 ≤ big; decide) (.cons (.str _ g1) (.cons (.str _ g2) (.cons (.str _ g3) .nil))))⟩
theorem x_join {o e : Expr} {apos pos : Pos} {s : Str} {tu : Bool} {ys : List Str} (hK : ∀ j, (X j).K = K) (ho : EX X K G o (.str s)) (he : ES X K G e tu (ys.map Dt.str)) (hj : joinOk s ys) (hs : ∀ j, starEach [e] (X j).env = [(false, eval e (X j).env)] := by intro _; rfl) (hbase : ∀ j, attributeBase o "join" (X j).env (eval o (X j).env) = eval o (X j).env := by intro _; rfl) (hline : (apos.endLine == pos.line) = true := by rfl) :
    EX X K G (.Call (.Attribute o "join" apos) [e] [] pos) (.str (Txt.join s ys)) := fun F H σ fps Q k q =>
  ⟨tM1 (fun x xs H Q => ∃ a p, ∃ ys : List Str, x = .str a ∧ xs = [.ref p] ∧ (SqL K H p (ys.map V.str) ∨ SqT K H p (ys.map V.str)) ∧ (ys.map (·.length)).sum + ys.length * a.length ≤ 16777216 ∧ Q (.str (Txt.join a ys)) H) (wpE X o) (wpE X e), fun j => hK j ▸ pe_join (pe_wp j) (pe_wp j) (hs j) (hbase j) hline, ho F H σ fps _ k fun F1 H1 v u r => by
    cases r with
    | str _ g =>
      refine ⟨⟨s, rfl⟩, he F1 H1 σ fps _ (k.up u) fun F2 H2 p vs u2 r2 l2 rl => ?_⟩
      have ev := repL_str rl
      subst ev
      refine ⟨s, p, ys, rfl, rfl, ?_, ?_, q F2 H2 _ (u.trans u2) (.str _ (join_good g (repStrs_good rl) hj))⟩
      · cases tu with
        | true => exact .inr r2
        | false => exact .inl r2
      · unfold joinOk at hj
        have : bigS ≤ 16777216 := by decide
        omega⟩
/-- int(truth) -/
theorem ex_intB {e : Expr} {p pos : Pos} {b : Bool} (h : EX X K G e (.bl b)) (hg : ∀ j, Gl (X j) "int") (hm : ∀ j, (X j).mg "int" = none)
    (he : ∀ j, starEach [e] (X j).env = [(false, eval e (X j).env)] := by intro _; rfl) : EX X K G (.Call (.Name "int" p) [e] [] pos) (.int (if b then 1 else 0)) := fun F H σ fps Q k q =>
  ⟨tCB _ (tCons (wpE X e) tNil), fun j => pe_callTy call_int1 (hg j) (hm j) (by decide +kernel) (pa_cons (pe_wp j) pa_nil (he j)) (by decide) (by decide) (he j) rfl, h F H σ fps _ k fun F1 H1 v u r => by
    cases r
    exact .inr ⟨b, rfl, q F1 H1 _ u (.int _)⟩⟩
end
def mulOk (i j : Int) : Prop := (-(2 ^ 64) < i ∧ i < 2 ^ 64) ∨ (-(2 ^ 64) < j ∧ j < 2 ^ 64)
def rngOk (n : Int) : Prop := -(2 ^ 62) ≤ n ∧ n < 2 ^ 62
def rng2Ok (lo n : Int) : Prop := -(2 ^ 62) ≤ lo ∧ lo < 2 ^ 62 ∧ -(2 ^ 62) ≤ n ∧ n < 2 ^ 62
end Vs

/-! Typed words for statements, comprehensions, equality. -/
namespace Vs
open PySem PySem.Spec L2

/-! ### comprehensions -/
def lcF {A B : Type} (p : A → Bool) (f : A → B) (xs : List A) : List B := xs.filterMap fun x => if p x then some (f x) else none
theorem lcF_enc {A B : Type} (enc : B → Dt) (p : A → Bool) (f : A → B) (xs : List A) : (xs.filterMap fun x => if p x then some (enc (f x)) else none) = (lcF p f xs).map enc := by
  unfold lcF
  rw [List.map_filterMap]
  congr 1
  funext x
  cases p x <;> rfl
theorem lcM_enc {A B : Type} (enc : B → Dt) (f : A → B) (xs : List A) : (xs.filterMap fun x => if (fun _ : A => true) x then some (enc (f x)) else none) = (List.map f xs).map enc := by
  rw [List.map_map]
  show (xs.filterMap fun x => some (enc (f x))) = _
  rw [List.filterMap_eq_map']
  rfl
theorem lcF_eq {A B : Type} (p : A → Bool) (f : A → B) (xs : List A) : lcF p f xs = (xs.filter p).map f := by
  unfold lcF
  induction xs with
  | nil => rfl
  | cons x xs ih =>
    rw [List.filterMap_cons, List.filter_cons]
    cases h : p x
    · simp only [Bool.false_eq_true, if_false]; exact ih
    · simp only [if_true, List.map_cons]; rw [ih]
section
variable {X : Cx} {K : PySem.W.Frag} {G : Env} {W : WX} {sv : Sv} {rest : List Stmt} {o : Out}
/-- en_lc with the order of printed proofs -/
theorem x_lc {A : Type} {elt tg iter : Expr} {ifs : List Expr} {scope : Scope} {own : List (Str × Nat)} {pos : Pos} {g : TG} {js : List Nat} {xs : List A} (enc : A → Dt) (Gb : A → Env) (p : A → Bool) (f : A → Dt)
    (hc : X.calm = true) (hN : X.N.Nodup) (hi : ISrc X K G tg iter (xs.map enc)) (hn : xs.length ≤ big) (ok : BlkOk X.N X.env.scope scope own) (hjs : ∀ j ∈ js, j ∈ own.map (·.2))
    (hg : ∀ b, PG (blkX (one X) scope b) tg g) (hB : ∀ x, Bd K g js (enc x) (wipeG G (own.map (·.2))) (Gb x))
    (ht : ∃ t : TT, (∀ i, PTs (blkX (one X) scope i) ifs t) ∧ ∀ x, x ∈ xs → ∀ F H σ fps (Q : Bool → Hp → Prop), EnvOk K F H σ (Gb x) fps → (∀ F' H', Up F H F' H' → Q (p x) H') → t σ H Q)
    (he : ∀ x, x ∈ xs → p x = true → EX (blkX (one X) scope) K (Gb x) elt (f x)) :
    EN (one X) K G (.ListComp elt [⟨tg, iter, ifs, 0⟩] scope pos) (.ol (xs.filterMap fun x => if p x then some (f x) else none)) := en_lc enc Gb p f hc hN hi hn ok hjs hg hB ht he

/-! ### statements -/
theorem run_asgTP {B : Type} {tg e : Expr} {g : TG} {js : List Nat} {v : B} {pos : Pos} (enc : B → Dt) (oF : B → Out) (P : B → Prop) (G' : B → Env) (h : EX (one X) K G e (enc v)) (hp : P v) (hg : PG X tg g) (hB : ∀ y, Bd K g js (enc y) G (G' y)) (hv : noneIn sv.ks js = true) (k : ∀ y, P y → Run X K W sv rest (G' y) (oF y))
    (hs : swapsWithSole [tg] e pos.line X.env = pure false := by rfl) (hw : swappedStores [tg] e X.env = pure none := by rfl) (hx : (assignEach [tg] X.env).map (·.2) = [assign tg X.env] := by rfl) (ho : oF v = o := by rfl) : Run X K W sv (.Assign [tg] e pos :: rest) G o := ho ▸
  run_asgT h hg (hB v) hv (k v hp) hs hw hx
theorem run_gd {T : Type} {c : Expr} {b : Bool} {thn : List Stmt} {pos : Pos} (E : T → Out) (x y : T) (hE : NoNx (E x)) (hc : EB (one X) K G c b) (h1 : b = true → Run X K W sv thn G (E x)) (h2 : b = false → Run X K W sv rest G (E y)) (ho : E (cond b x y) = o := by rfl) :
    Run X K W sv (.If c thn [] pos :: rest) G o := ho ▸ run_guard E hE hc h1 h2
theorem run_iE {T : Type} {c : Expr} {b : Bool} {thn els : List Stmt} {pos : Pos} (E : T → Out) (x y : T) (hx : NoNx (E x)) (hy : NoNx (E y)) (hc : EB (one X) K G c b) (h1 : b = true → Run X K W sv thn G (E x)) (h2 : b = false → Run X K W sv els G (E y)) (ho : E (cond b x y) = o := by rfl) :
    Run X K W sv (.If c thn els pos :: rest) G o := ho ▸ run_ifE E hx hy hc h1 h2
theorem run_ifP {S : Type} {c : Expr} {b : Bool} {thn els : List Stmt} {pos : Pos} {s1 s2 : S} (Gj : S → Env) (oF : S → Out) (P : S → Prop) (hc : EB (one X) K G c b) (hp : P (cond b s1 s2)) (h1 : b = true → Run X K W sv thn G (.nx (Gj s1))) (h2 : b = false → Run X K W sv els G (.nx (Gj s2)))
    (hk : ∀ s, P s → Run X K W sv rest (Gj s) (oF s)) (ho : oF (cond b s1 s2) = o := by rfl) : Run X K W sv (.If c thn els pos :: rest) G o := ho ▸ run_ifJ Gj hc h1 h2 (hk _ hp)
theorem run_forQ {A S T R : Type} {tg iter : Expr} {g : TG} {js : List Nat} {body : List Stmt} {pos : Pos} {P : S → A → Prop} {Q : S → Prop} {s0 : S} {xs : List A} (enc : A → Dt) (Gs : S → Env) (Gb : S → A → Env) (E : T → Out) (step : S → A → Step S R) (io : R → T) (k : S → T)
    (hp : PassesOwn (model X.prog X.w) X.A X.env X.xe) (hc : X.calm = true) (hg : PG X tg g) (hv : noneIn sv.ks js = true) (hE : ∀ y, Term (E (io y)))
    (hi : ISrc X K G tg iter (xs.map enc)) (h0 : Weak G (Gs s0)) (hB : ∀ s x, Bd K g js (enc x) (Gs s) (Gb s x)) (hP : LoopAll P Q step xs s0)
    (hb : ∀ s x, x ∈ xs → P s x → Run X K W sv body (Gb s x) ((step s x).out Gs fun y => E (io y)))
    (hk : ∀ s, Q s → Run X K W sv rest (Gs s) (E (k s))) (ho : E (loop step io k xs s0) = o := by rfl) : Run X K W sv (.For tg iter body [] pos :: rest) G o := ho ▸ run_for enc Gs Gb E step io k hp hc hg hv hE hi h0 hB hP hb hk
end

/-! ### a loop within a loop: what the inner one leaves is what the outer one's turn gives -/
/-! ### equality, typed -/
structure EqT {A : Type} [BEq A] (f : A → Dt) (n : Nat) : Prop where
  fl : ∀ x, (f x).flat = true
  dp : ∀ x, (f x).py.depth ≤ n
  eq : ∀ x y, PyData.eqv (f x).py (f y).py = (x == y)
theorem EqT.d {A : Type} [BEq A] {f : A → Dt} {n : Nat} (h : EqT f n) (hn : n ≤ 64) (x y : A) : EqD (f x) (f y) (x == y) := ⟨h.fl x, h.fl y, Nat.le_trans (h.dp x) hn, Nat.le_trans (h.dp y) hn, h.eq x y⟩
theorem eqt_int : EqT Dt.int 0 := ⟨fun _ => rfl, fun x => by simp [Dt.py, PyData.depth], fun x y => by simp [Dt.py, PyData.eqv]⟩
theorem eqt_str : EqT Dt.str 0 := ⟨fun _ => rfl, fun x => by simp [Dt.py, PyData.depth], fun x y => by simp [Dt.py, PyData.eqv]⟩
theorem eqt_bl : EqT Dt.bl 0 := ⟨fun _ => rfl, fun x => by simp [Dt.py, PyData.depth], fun x y => by simp [Dt.py, PyData.eqv]⟩
section
variable {A : Type} [BEq A] {f : A → Dt} {n : Nat}
theorem eqt_flatL (h : EqT f n) : ∀ xs : List A, Dt.flatL (xs.map f) = true
  | [] => rfl
  | x :: xs => by
    show ((f x).flat && Dt.flatL (xs.map f)) = true
    rw [h.fl x, eqt_flatL h xs]; rfl
theorem eqt_depL (h : EqT f n) : ∀ xs : List A, PyData.depthAll (Dt.pyL (xs.map f)) ≤ n
  | [] => by simp [Dt.pyL, PyData.depthAll]
  | x :: xs => by
    show PyData.depthAll ((f x).py :: Dt.pyL (xs.map f)) ≤ n
    unfold PyData.depthAll
    exact Nat.max_le.mpr ⟨h.dp x, eqt_depL h xs⟩
theorem eqt_eqL (h : EqT f n) : ∀ xs ys : List A, PyData.eqvAll (Dt.pyL (xs.map f)) (Dt.pyL (ys.map f)) = (xs == ys)
  | [], [] => by simp [Dt.pyL, PyData.eqvAll]
  | [], _ :: _ => by simp [Dt.pyL, PyData.eqvAll]
  | _ :: _, [] => by simp [Dt.pyL, PyData.eqvAll]
  | x :: xs, y :: ys => by
    show PyData.eqvAll ((f x).py :: Dt.pyL (xs.map f)) ((f y).py :: Dt.pyL (ys.map f)) = _
    unfold PyData.eqvAll
    rw [h.eq x y, eqt_eqL h xs ys]
    rfl
theorem eqt_lst (h : EqT f n) : EqT (fun xs : List A => Dt.lst (xs.map f)) (n + 1) := ⟨fun xs => eqt_flatL h xs, fun xs => by
  simp only [Dt.py]; unfold PyData.depth; exact Nat.succ_le_succ (eqt_depL h xs), fun xs ys => by
  simp only [Dt.py]; unfold PyData.eqv; exact eqt_eqL h xs ys⟩
theorem eqt_vtup (h : EqT f n) : EqT (fun xs : List A => Dt.tup (xs.map f)) (n + 1) := ⟨fun xs => eqt_flatL h xs, fun xs => by
  simp only [Dt.py]; unfold PyData.depth; exact Nat.succ_le_succ (eqt_depL h xs), fun xs ys => by
  simp only [Dt.py]; unfold PyData.eqv; exact eqt_eqL h xs ys⟩
theorem eqt_opt (h : EqT f n) (h1 : ∀ x, PyData.eqv .none (f x).py = false) (h2 : ∀ x, PyData.eqv (f x).py .none = false) : EqT (encO f) n := ⟨fun x => by cases x with | none => rfl | some y => exact h.fl y, fun x => by
  cases x with
  | none => simp [encO, Dt.py, PyData.depth]
  | some y => exact h.dp y, fun x y => by
  cases x with
  | none => cases y with
    | none => simp [encO, Dt.py, PyData.eqv]
    | some z => exact h1 z
  | some x => cases y with
    | none => exact h2 x
    | some z => exact h.eq x z⟩
end
theorem eqt_tup2 {A B : Type} [BEq A] [BEq B] {f : A → Dt} {g : B → Dt} {n m : Nat} (h : EqT f n) (h2 : EqT g m) : EqT (fun z : A × B => Dt.tup [f z.1, g z.2]) (max n m + 1) := ⟨fun z => by
  show ((f z.1).flat && ((g z.2).flat && true)) = true
  rw [h.fl, h2.fl]; rfl, fun z => by
  simp only [Dt.py, Dt.pyL]
  unfold PyData.depth PyData.depthAll PyData.depthAll PyData.depthAll
  have := h.dp z.1
  have := h2.dp z.2
  omega, fun z y => by
  simp only [Dt.py, Dt.pyL]
  unfold PyData.eqv PyData.eqvAll PyData.eqvAll PyData.eqvAll
  rw [h.eq, h2.eq, Bool.and_true]
  rfl⟩
theorem eqt_tup3 {A B C : Type} [BEq A] [BEq B] [BEq C] {f : A → Dt} {g : B → Dt} {k : C → Dt} {n m l : Nat} (h : EqT f n) (h2 : EqT g m) (h3 : EqT k l) : EqT (fun z : A × B × C => Dt.tup [f z.1, g z.2.1, k z.2.2]) (max n (max m l) + 1) := ⟨fun z => by
  show ((f z.1).flat && ((g z.2.1).flat && ((k z.2.2).flat && true))) = true
  rw [h.fl, h2.fl, h3.fl]; rfl, fun z => by
  simp only [Dt.py, Dt.pyL]
  unfold PyData.depth PyData.depthAll PyData.depthAll PyData.depthAll PyData.depthAll
  have := h.dp z.1
  have := h2.dp z.2.1
  have := h3.dp z.2.2
  omega, fun z y => by
  simp only [Dt.py, Dt.pyL]
  unfold PyData.eqv PyData.eqvAll PyData.eqvAll PyData.eqvAll PyData.eqvAll
  rw [h.eq, h2.eq, h3.eq, Bool.and_true]
  rfl⟩
end Vs

/-! Tests that are known, dict displays, lists that grow, data of any kind. -/
namespace Vs
open PySem PySem.Spec L2
section
variable {X : Cx} {K : PySem.W.Frag} {W : WX} {sv : Sv} {G : Env} {rest : List Stmt} {o : Out} {pos : Pos}
/-- a test that is known: no -/
theorem run_skip {c : Expr} {thn : List Stmt} (hc : EB (one X) K G c false) (k : Run X K W sv rest G o) : Run X K W sv (.If c thn [] pos :: rest) G o := fun F H σ fps D Eo s q =>
  ⟨tSeq (tIfS (wpT (one X) c) tNever tNext) (wpSs X rest), pss_cons (ps_if pt_w1 pss_never pss_nil) pss_wp, hc F H σ fps _ Eo fun F1 H1 u => k F1 H1 σ fps D (Eo.up u) s (q.le u.le)⟩
/-- .. yes, and the branch doesn't fall through -/
theorem run_take {c : Expr} {thn els : List Stmt} (hc : EB (one X) K G c true) (hn : NoNx o) (k : Run X K W sv thn G o) : Run X K W sv (.If c thn els pos :: rest) G o := fun F H σ fps D Eo s q =>
  ⟨tSeq (tIfS (wpT (one X) c) (wpSs X thn) tNever) tNever, pss_cons (ps_if pt_w1 pss_wp pss_never) pss_never, hc F H σ fps _ Eo fun F1 H1 u =>
    k F1 H1 σ fps _ (Eo.up u) s (Fin.ends (D := D) (D' := { D with nx := tNever D }) (o := o) rfl rfl rfl hn (q.le u.le))⟩
end
theorem units_of {A : Around} {k : Nat} (hr : Room k A) : A.units + 64 < cLine := hr.units
/-! ### dict displays -/
section
variable {I : Type} {X : I → Cx} {K : PySem.W.Frag} {G : Env}
theorem en_dic0 {pos : Pos} : EN X K G (.Dict [] [] pos) (.od []) := fun F H σ fps Q k q =>
  ⟨tDNewK, fun _ => pe_dnewK, fun d hd => by
    refine q F (upd H d (.dK [])) (.ref d) [d] (Up.layH k.sub hd) (.od upd_same (Nat.zero_le _) .nil List.nodup_nil) fun a ha => ?_
    obtain rfl : a = d := by simpa using ha
    exact ⟨hd, k.sub.none hd, by rw [upd_same]; simp⟩⟩
theorem en_dic1 {k v : Expr} {pos : Pos} {s : Str} {d : Dt} (hk : EX X K G k (.str s)) (hv : EX X K G v d) : EN X K G (.Dict [some k] [v] pos) (.od [(.inr s, d)]) := fun F H σ fps Q E q =>
  ⟨tDisp [(wpE X k, wpE X v)], fun j => pe_disp (pps_cons (pe_wp j) (pe_wp j) pps_nil) rfl rfl (fun z => by cases z) (Nat.le_of_ble_eq_true rfl), fun p hp => by
    have u0 : Up F H F (upd H p (.dK [])) := Up.layH E.sub hp
    refine hk F _ σ fps _ (E.up u0) fun F1 H1 x u1 r1 => hv F1 H1 σ fps _ ((E.up u0).up u1) fun F2 H2 y u2 r2 => ?_
    cases r1
    rename_i gs
    have hF : F p = none := E.sub.none hp
    have h2 : H2 p = some (.dK []) := u2.hp _ _ (u1.hp _ _ upd_same)
    have f1 : F1 p = none := u1.nw p hF (by rw [upd_same]; simp)
    have f2 : F2 p = none := u2.nw p f1 (by rw [u1.hp p _ upd_same]; simp)
    refine ⟨h2, [(.inr s, y)], rfl, Nat.le_of_ble_eq_true rfl, ?_⟩
    refine q F2 (upd H2 p (.dK [(.inr s, y)])) (.ref p) [p] ⟨(u1.trans u2).fr, fun a o z => ?_, fun a z z' => ?_, fun a o z => ?_⟩ (.od upd_same (by show 1 ≤ big; decide) (.cons gs r2 .nil) (by simp)) fun a ha => ?_
    · have hne : a ≠ p := fun e => by subst e; rw [hp] at z; cases z
      rw [upd_ne hne]
      exact (u0.trans (u1.trans u2)).hp a o z
    · exact (u0.trans (u1.trans u2)).nw a z z'
    · have hne : a ≠ p := fun e => by subst e; rw [f2] at z; cases z
      rcases u2.sb a o z with b | ⟨b, ob', b'⟩
      · exact .inl (by rw [upd_ne hne]; exact b)
      · exact .inr ⟨b, ob', by rw [upd_ne hne]; exact b'⟩
    · obtain rfl : a = p := by simpa using ha
      exact ⟨hp, f2, by rw [upd_same]; simp⟩⟩
/-! ### and, or with a known part -/
theorem ex_andT {a e : Expr} {rest : List Expr} {y : Bool} {pos : Pos} (h : EX X K G a (.bl true)) (hr : EX X K G (.BoolOp .And (e :: rest) pos) (.bl y)) : EX X K G (.BoolOp .And (a :: e :: rest) pos) (.bl y) := ex_and h fun _ => hr
theorem ex_orF {a e : Expr} {rest : List Expr} {y : Bool} {pos : Pos} (h : EX X K G a (.bl false)) (hr : EX X K G (.BoolOp .Or (e :: rest) pos) (.bl y)) : EX X K G (.BoolOp .Or (a :: e :: rest) pos) (.bl y) := ex_or h fun _ => hr
theorem ex_andF {a e : Expr} {rest : List Expr} {pos : Pos} (h : EX X K G a (.bl false)) : EX X K G (.BoolOp .And (a :: e :: rest) pos) (.bl false) := ex_and (y := true) h fun z => nomatch z
theorem ex_orT {a e : Expr} {rest : List Expr} {pos : Pos} (h : EX X K G a (.bl true)) : EX X K G (.BoolOp .Or (a :: e :: rest) pos) (.bl true) := ex_or (y := true) h fun z => nomatch z
theorem ebw_andT {a e : Expr} {rest : List Expr} {y : Bool} {pos : Pos} (h : EB X K G a true) (hr : EBW X K G (.BoolOp .And (e :: rest) pos) y) : EBW X K G (.BoolOp .And (a :: e :: rest) pos) y := ebw_and h fun _ => hr
theorem ebw_orF {a e : Expr} {rest : List Expr} {y : Bool} {pos : Pos} (h : EB X K G a false) (hr : EBW X K G (.BoolOp .Or (e :: rest) pos) y) : EBW X K G (.BoolOp .Or (a :: e :: rest) pos) y := ebw_or h fun _ => hr
theorem ebw_andF {a e : Expr} {rest : List Expr} {pos : Pos} (h : EB X K G a false) : EBW X K G (.BoolOp .And (a :: e :: rest) pos) false := ebw_and (y := true) h fun z => nomatch z
theorem ebw_orT {a e : Expr} {rest : List Expr} {pos : Pos} (h : EB X K G a true) : EBW X K G (.BoolOp .Or (a :: e :: rest) pos) true := ebw_or (y := true) h fun z => nomatch z
/-! ### isinstance of any data -/
def isT_str : Dt → Bool
  | .str _ => true
  | _ => false
def isT_bool : Dt → Bool
  | .bl _ => true
  | _ => false
theorem kit_str : ∀ d : Dt, kitB d.ty "str" = some (isT_str d)
  | .non => by decide +kernel
  | .bl _ => (by decide +kernel : kitB "bool" "str" = some false)
  | .int _ => (by decide +kernel : kitB "int" "str" = some false)
  | .str _ => (by decide +kernel : kitB "str" "str" = some true)
  | .lst _ => (by decide +kernel : kitB "list" "str" = some false)
  | .tup _ => (by decide +kernel : kitB "tuple" "str" = some false)
  | .dic _ => (by decide +kernel : kitB "dict" "str" = some false)
  | .dit _ => (by decide +kernel : kitB "dict" "str" = some false)
  | .ins _ _ => (by decide +kernel : kitB "object" "str" = some false)
  | .scr _ => (by decide +kernel : kitB "list" "str" = some false)
theorem kit_strF {d : Dt} (h : isT_str d = false) : kitB d.ty "str" = some false := by rw [kit_str d, h]
end
section
variable {X : Cx} {K : PySem.W.Frag} {W : WX} {sv : Sv} {G : Env} {rest : List Stmt} {o : Out} {pos : Pos}
/-- y = [.. for ..], y no cell -/
theorem run_asgLc {A B : Type} {elt tg iter : Expr} {ifs : List Expr} {scope : Scope} {own : List (Str × Nat)} {lpos pos' : Pos} {g : TG} {js : List Nat} {xs : List A} {i : Nat} {x : Str} {v : B} (encB : B → List Dt) (Gk : B → Env) (oF : B → Out) (Pb : B → Prop) (enc : A → Dt) (Gb : A → Env) (p : A → Bool) (f : A → Dt)
    (hc : X.calm = true) (hN : X.N.Nodup) (hi : ISrc X K G tg iter (xs.map enc)) (hn : xs.length ≤ big) (ok : BlkOk X.N X.env.scope scope own) (hjs : ∀ j ∈ js, j ∈ own.map (·.2))
    (hg : ∀ b, PG (blkX (one X) scope b) tg g) (hB : ∀ x, Bd K g js (enc x) (wipeG G (own.map (·.2))) (Gb x))
    (ht : ∃ t : TT, (∀ i, PTs (blkX (one X) scope i) ifs t) ∧ ∀ x, x ∈ xs → ∀ F H σ fps (Q : Bool → Hp → Prop), EnvOk K F H σ (Gb x) fps → (∀ F' H', Up F H F' H' → Q (p x) H') → t σ H Q)
    (he : ∀ x, x ∈ xs → p x = true → EX (blkX (one X) scope) K (Gb x) elt (f x)) (hv : encB v = xs.filterMap fun x => if p x then some (f x) else none) (hp : Pb v) (k : ∀ y, Pb y → Run X K W sv rest (Gk y) (oF y))
    (hy : X.N[i]? = some x) (hyl : X.env.scope.names.lookup x = some .local) (hl : i < G.length) (hsv : memN sv.ks i = false)
    (hsw : swapsWith (.ListComp elt [⟨tg, iter, ifs, 0⟩] scope lpos) (some (.Name x pos')) pos.line X.env = pure true) (hG : ∀ y, G.set i (some (.ol (encB y))) = Gk y) (ho : oF v = o := by rfl) :
    Run X K W sv (.Assign [.Name x pos'] (.ListComp elt [⟨tg, iter, ifs, 0⟩] scope lpos) pos :: rest) G o := by
  subst ho
  intro F H σ fps D Eo s q
  obtain ⟨wi, tt, h1, h2, h3, h4⟩ := lc_readL (pos := lpos) (K := K) (G := G) (fun _ _ _ => True) enc Gb p f hc hN hi.lk hn ok hjs hg hB ht he
  refine ⟨tSeq (tAsg (tLc wi g tt (wpE (blkX (one X) scope) elt) (own.map (·.2))) (gName i)) (wpSs X rest), pss_cons (ps_setLc hc hN hy hyl hsw h1 ok (fun s H C cl fp => hg ⟨(), s, H, C, cl, fp⟩) (fun s H C cl fp => h3 ⟨(), s, H, C, cl, fp⟩) (fun s H C cl fp => pe_wp (X := blkX (one X) scope) ⟨(), s, H, C, cl, fp⟩) h2) pss_wp, ?_⟩
  show tLc wi g tt (wpE (blkX (one X) scope) elt) (own.map (·.2)) σ H fun x H1 => wpSs X rest D (σ.set i (some x)) H1
  refine h4 F H σ fps _ Eo trivial fun F1 H1 w fp u r n => ?_
  rw [← hv] at r
  have E1 : EnvOk K F1 H1 (σ.set i (some w)) (G.set i (some (.ol (encB v)))) (put fps i fp) := (Eo.up u).set hl r (fun a ha => ⟨(n a ha).2.1, (n a ha).2.2⟩) fun a ha j _ z => (Eo.own j a z).2 (n a ha).1
  rw [hG v] at E1
  exact k v hp F1 H1 _ _ D E1 (s.set hsv) (q.le (u.leSet fun a ha => (n a ha).1))
end
end Vs

/-! A law's end. -/
namespace Vs
open PySem PySem.Spec L2
/-- the end of a law over a head by facts: exceptions may fly within, and the script's numbers have no more than 2^20 bits -/
theorem walkW {l : PySem.W.OpenLaw} {q : Program} {loose : List Str} {XP : (Str → Option Value) → Heap → Prop} {YP : World → Heap → Prop} {d : DefRec} {k : Nat} {x : Str} {r : List Dt → Sum Cell Xc → Prop}
    (hn : l.most = some 63) (hdf : d.params.defaults = []) (hr : Room k callerA)
    (F : ∀ (w : World) (mg : Str → Option Value) (fa : Addr) (h : Heap), YP w h → h.Ns mainGlobals mg → mg d.name = some (.ref fa) →
      ∃ (K : PySem.W.Frag) (fd : FuncData), K.In h ∧ (∀ (s : Shared) (u : Value), BindsTo s fd ⟨[u], []⟩ [(x, u)]) ∧ ∀ base : Heap, K.In base → base.Ns mainGlobals mg → FnOk l.prog w K mg base (L2.CX l.prog w) k fa fd [x] (spR K 1 r))
    (hR : ∀ ns : List Int, ns.length ≤ 63 → r [.scr (ns.map Dt.int)] (.inl (.fz (.bl true)))) :
    PySem.W.WalkO q loose XP YP l.row.toRowW d [] (fun f vs => PySem.call f vs) := by
  refine Att.attach_callB hn hdf fun w s₀ s₁ mg mb fa o pm cd doc a vs ns G Y ho hd hcd hmg hobj hints hlen hbits hg => ?_
  obtain ⟨K, fd, KX, hb, hF⟩ := F w mg fa _ Y G.T.g hmg
  have hl : ns.length ≤ sizeLine := Nat.le_trans hlen (by rw [sizeLine_eq]; decide)
  have hInts : ∀ (H : Hp) (zs : List Int), RepL K H (zs.map V.int) (zs.map Dt.int) := fun H zs => by
    induction zs with
    | nil => exact .nil
    | cons z zs ih => exact .cons (.int z) ih
  refine law_call KX G.T.g G.T.b G.T.builtins G.T.nolimit hg hobj hints hl hr hF hb (fun H hO hS => ?_) fun H e s' hx => ?_
  · refine ⟨H, [.scr (ns.map Dt.int)], _, fun a o z => .inl z, .cons (.scr hS ?_ (hInts H ns)) .nil, rfl, hR ns hlen, fun F' H' v fp u rc _ => ?_⟩
    · rw [List.length_map]
      exact Nat.le_trans hlen (by decide)
    · cases rc.there.2
      rfl
  · obtain ⟨_, _, _, _, _, _, _, _, _, _, _, _, z⟩ := hx
    exact z.elim
end Vs

/-! Own cells at their places: seen, stored into. Options opened. -/
namespace Vs
open PySem PySem.Spec L2
section
variable {I : Type} {X : I → Cx} {K : PySem.W.Frag} {G : Env}
theorem encO_get {A : Type} [Inhabited A] (f : A → Dt) {o : Option A} (h : isNo o = false) : encO f o = f (o.getD default) := by
  cases o with
  | none => cases h
  | some x => rfl
theorem x_get {A : Type} [Inhabited A] (f : A → Dt) {e : Expr} {o : Option A} (h : EX X K G e (encO f o)) (hn : isNo o = false) : EX X K G e (f (o.getD default)) := h.is (encO_get f hn)
end
theorem ixN_lit {n : Nat} {k : Nat} (h : k < n) : ixN n (k : Int) = some k := by
  unfold ixN
  rw [if_pos (by omega), if_pos (by omega)]
  rfl
theorem ixN_int {n : Nat} {i : Int} (h0 : 0 ≤ i) (h : i < n) : ixN n i = some i.toNat := by
  unfold ixN
  rw [if_pos (by omega), if_pos (by omega)]
theorem repL_set {K : PySem.W.Frag} {F : Hp} : ∀ {vs : List V} {ds : List Dt}, RepL K F vs ds → ∀ (j : Nat) {v : V} {d : Dt}, Rep K F v d → RepL K F (vs.set j v) (ds.set j d)
  | _, _, .nil, _, _, _, _ => .nil
  | _, _, .cons h r, 0, _, _, q => .cons q r
  | _, _, .cons h r, j + 1, _, _, q => .cons h (repL_set r j q)

/-! ### what stands at a place -/
section
variable {K : PySem.W.Frag} {F H : Hp} {σ : L2.St} {G : Env} {fps : Nat → List Addr} {i : Nat} {π : List Nat} {c : Cell} {v : V}
theorem EnvOk.loc (E : EnvOk K F H σ G fps) (h : atG G i π = some c) (l : LocG H σ i π v) : ∃ fpc, RepC K F H fpc v c ∧ ∀ a ∈ fpc, Owns fps a := by
  obtain ⟨v', fpc, fps1, l', r, _, ow, _⟩ := E.take h
  obtain rfl := l.fun l'
  exact ⟨fpc, r, fun a ha => (ow a).mpr (.inr ha)⟩
/-- the cell at a place becomes another one -/
theorem EnvOk.chg (E : EnvOk K F H σ G fps) (h : atG G i π = some c) (l : LocG H σ i π v) :
    ∃ fpc, RepC K F H fpc v c ∧ (∀ a ∈ fpc, Owns fps a) ∧ ∀ (F2 H2 : Hp) (fp2 : List Addr) (c2 : Cell), Ex F F2 → Sub F2 H2 → (∀ a o, a ∉ fpc → H a = some o → H2 a = some o) → (∀ a, a ∉ fpc → F a = none → H a ≠ none → F2 a = none) →
      RepC K F2 H2 fp2 v c2 → (∀ a ∈ fp2, F2 a = none ∧ H2 a ≠ none ∧ (a ∈ fpc ∨ H a = none)) → ∃ fps2, EnvOk K F2 H2 σ (updG G i π c2) fps2 ∧ Le (Owns fps) F H F2 H2 (Owns fps2) := by
  obtain ⟨v', fpc, fps1, l', r, E1, ow, ds⟩ := E.take h
  obtain rfl := l.fun l'
  refine ⟨fpc, r, fun a ha => (ow a).mpr (.inr ha), fun F2 H2 fp2 c2 ex sb kp nw r2 n2 => ?_⟩
  have E2 : EnvOk K F2 H2 σ (updG G i π (.hl v)) fps1 := E1.keep ex sb (fun a ha o z => kp a o (fun y => ds a y ha) z) fun a ha => nw a (fun y => ds a y ha) (E1.ownF ha).1 (E1.ownF ha).2
  have dj : ∀ a ∈ fp2, ¬ Owns fps1 a := fun a ha z => by
    rcases (n2 a ha).2.2 with y | y
    · exact ds a y z
    · exact (E1.ownF z).2 y
  obtain ⟨fps3, E3, o3⟩ := E2.give (atG_upd h) r2 (fun a ha => ⟨(n2 a ha).1, (n2 a ha).2.1⟩) dj
  rw [updG_upd] at E3
  refine ⟨fps3, E3, ⟨ex, fun a o ho z => kp a o (fun y => ho ((ow a).mpr (.inr y))) z, fun a ho z z' => nw a (fun y => ho ((ow a).mpr (.inr y))) z z', fun a ha => ?_⟩⟩
  rcases (o3 a).mp ha with y | y
  · exact .inl ((ow a).mpr (.inl y))
  · rcases (n2 a y).2.2 with z | z
    · exact .inl ((ow a).mpr (.inr z))
    · exact .inr z
/-- one own object is written anew -/
theorem EnvOk.set1 (E : EnvOk K F H σ G fps) (h : atG G i π = some c) {p : Addr} (l : LocG H σ i π (.ref p)) {fq : List Addr} (hfp : ∀ fpc, RepC K F H fpc (.ref p) c → ∀ a, a ∈ fpc ↔ a = p ∨ a ∈ fq) (ob : HO) (c2 : Cell) (r2 : RepC K F (upd H p ob) (p :: fq) (.ref p) c2) :
    ∃ fps2, EnvOk K F (upd H p ob) σ (updG G i π c2) fps2 ∧ Le (Owns fps) F H F (upd H p ob) (Owns fps2) := by
  obtain ⟨fpc, r, ow, go⟩ := E.chg h l
  have hm := hfp fpc r
  have op := ow p ((hm p).mpr (.inl rfl))
  have hF := (E.ownF op).1
  refine go F _ (p :: fq) c2 (Ex.refl _) (fun a o z => ?_) (fun a o hn z => ?_) (fun a _ z _ => z) r2 fun a ha => ?_
  · have hne : a ≠ p := fun e => by subst e; rw [hF] at z; cases z
    rcases E.sub a o z with b | ⟨b, ob', b'⟩
    · exact .inl (by rw [upd_ne hne]; exact b)
    · exact .inr ⟨b, ob', by rw [upd_ne hne]; exact b'⟩
  · have hne : a ≠ p := fun e => hn ((hm a).mpr (.inl e))
    rw [upd_ne hne]; exact z
  · have ha' : a ∈ fpc := (hm a).mpr (List.mem_cons.mp ha)
    refine ⟨(E.ownF (ow a ha')).1, ?_, .inl ha'⟩
    by_cases e : a = p
    · subst e; rw [upd_same]; simp
    · rw [upd_ne e]; exact (E.ownF (ow a ha')).2
theorem LocV.snocF {H : Hp} {p C dx : Addr} {vs : List (Str × V)} {j : Nat} {f : Str} {w : V} (hp : H p = some (.ins C dx vs)) (hj : vs[j]? = some (f, w)) : ∀ {π : List Nat} {u : V}, LocV H u π (.ref p) → LocV H u (π ++ [j]) w
  | _, _, .nil => .fld hp hj .nil
  | _, _, .fld a b c => .fld a b (c.snocF hp hj)
  | _, _, .key a b c => .key a b (c.snocF hp hj)
theorem LocV.snocK {H : Hp} {p : Addr} {vs : List (Key × V)} {j : Nat} {k : Key} {w : V} (hp : H p = some (.dK vs)) (hj : vs[j]? = some (k, w)) : ∀ {π : List Nat} {u : V}, LocV H u π (.ref p) → LocV H u (π ++ [j]) w
  | _, _, .nil => .key hp hj .nil
  | _, _, .fld a b c => .fld a b (c.snocK hp hj)
  | _, _, .key a b c => .key a b (c.snocK hp hj)
end
/-! ### names of fields -/
def ixF (f : Str) : List (Str × Cell) → Option Nat
  | [] => none
  | (g, _) :: r => if g = f then some 0 else (ixF f r).map (· + 1)
theorem repCF_ix {K : PySem.W.Frag} {F H : Hp} {f : Str} : ∀ {fp : List Addr} {vs : List (Str × V)} {fs : List (Str × Cell)}, RepCF K F H fp vs fs → ∀ {j : Nat}, ixF f fs = some j → ∃ w, vs[j]? = some (f, w) ∧ vs.lookup f = some w
  | _, _, _, .nil, j, h => by cases h
  | _, _, _, .cons (k := g) (v := v) _ rs _, j, h => by
    unfold ixF at h
    by_cases e : g = f
    · subst e
      rw [if_pos rfl] at h; cases h
      exact ⟨v, rfl, by rw [List.lookup_cons, beq_self_eq_true]⟩
    · rw [if_neg e] at h
      cases q : ixF f _ with
      | none => rw [q] at h; cases h
      | some m =>
        rw [q] at h; cases h
        obtain ⟨w, h1, h2⟩ := repCF_ix rs q
        refine ⟨w, by simpa using h1, ?_⟩
        have e' : (f == g) = false := by simpa using fun z : f = g => e z.symm
        rw [List.lookup_cons, e']
        exact h2
section
variable {I : Type}
/-- e is the own thing at a place -/
def EP (X : I → Cx) (K : PySem.W.Frag) (G : Env) (e : Expr) (i : Nat) (π : List Nat) : Prop :=
  ∀ F H σ fps (Q : VK), EnvOk K F H σ G fps → (∀ F' H' v, Up F H F' H' → LocG H' σ i π v → Q v H') → wpE X e σ H Q
variable {X : I → Cx} {K : PySem.W.Frag} {G : Env}
theorem ep_var {i : Nat} {x : Str} {pos : Pos} {c : Cell} (hg : G[i]? = some (some c)) (hN : ∀ j, (X j).N[i]? = some x) (hv : ∀ j, Vis (X j).env.scope x)
    (hd : (x == ("__debug__" : Str)) = false := by decide) (hcd : (x == ("__classdict__" : Str)) = false := by decide) : EP X K G (.Name x pos) i [] := fun F H σ fps Q e q => by
  obtain ⟨v, h1, r⟩ := e.ent i _ hg
  exact ⟨tVar i, fun j => pe_var (hN j) (hv j) hd hcd, v, h1, q F H v (Up.refl e.sub) ⟨v, h1, .nil⟩⟩
/-- the name in slot i, own -/
theorem pp (i : Nat) {x : Str} {pos : Pos} {c : Cell} (hg : G[i]? = some (some c)) (hN : ∀ j, (X j).N[i]? = some x := by intro _; rfl) (hv : ∀ j, Vis (X j).env.scope x := by intro _; first | exact Or.inl rfl | exact Or.inr (Or.inl rfl) | exact Or.inr (Or.inr rfl))
    (hd : (x == ("__debug__" : Str)) = false := by decide) (hcd : (x == ("__classdict__" : Str)) = false := by decide) : EP X K G (.Name x pos) i [] := ep_var hg hN hv hd hcd
theorem EP.es {e : Expr} {i : Nat} {π : List Nat} {ds : List Dt} (h : EP X K G e i π) (hg : atG G i π = some (.ol ds)) : ES X K G e false ds := fun F H σ fps Q E q =>
  h F H σ fps _ E fun F1 H1 v u l => by
    obtain ⟨fpc, r, _⟩ := (E.up u).loc hg l
    obtain ⟨p, vs, rfl, _, h2, l, r⟩ := r.ol_inv
    exact q F1 H1 p vs u (SqL.of h2) l r
theorem EP.ex {e : Expr} {i : Nat} {π : List Nat} {d : Dt} (h : EP X K G e i π) (hg : atG G i π = some (.fz d)) : EX X K G e d := fun F H σ fps Q E q =>
  h F H σ fps _ E fun F1 H1 v u l => by
    obtain ⟨fpc, r, _⟩ := (E.up u).loc hg l
    exact q F1 H1 v u r.there.2
end
section
variable {X : Cx} {K : PySem.W.Frag} {W : WX} {sv : Sv} {G : Env} {rest : List Stmt} {o : Out} {pos : Pos}
/-- xs.append(e), xs an own list -/
theorem run_append {A : Type} {i : Nat} {π : List Nat} {t e : Expr} {apos cpos : Pos} {xs : List A} {y : A} {G' : Env} (f : A → Dt) (hK : X.K = K) (ht : EP (one X) K G t i π) (hg : atG G i π = some (.ol (xs.map f))) (h : EX (one X) K G e (f y)) (hn : xs.length + 1 ≤ big)
    (hG : updG G i π (.ol ((xs ++ [y]).map f)) = G') (k : Run X K W sv rest G' o)
    (hbase : attributeBase t "append" X.env (eval t X.env) = eval t X.env := by rfl)
    (hfew : ((backTo cpos (starEach [e] X.env)).all (fun x => !x.1) && (backToKw cpos (keywordEach [] X.env)).all (fun x => x.1.isSome) && decide (([e] : List Expr).length + ([] : List Keyword).length + (if ([] : List Keyword).isEmpty then 0 else 1) < 30)) = true := by rfl)
    (hline : (apos.endLine == cpos.line) = true := by rfl) (hs : starEach [e] X.env = [(false, eval e X.env)] := by rfl) (hplain : (backTo cpos (starEach ([] : List Expr) X.env)).any (·.1) = false := by rfl)
    (hsw : swapsWith (.Call (.Attribute t "append" apos) [e] [] cpos) none pos.line X.env = pure false := by rfl) :
    Run X K W sv (.Expr (.Call (.Attribute t "append" apos) [e] [] cpos) pos :: rest) G o := fun F H σ fps D Eo s q => by
  subst hG
  refine ⟨tSeq (tDrop (tBM X.K "list" rAppend (wpE (one X) t) (tCons (wpE (one X) e) tNil))) (wpSs X rest), pss_cons (ps_expr (pe_bm PySem.F.plainAttrs_list PySem.F.slot_list_append PySem.F.type_list_append mt_append pe_w1 (pa_cons pe_w1 pa_nil hs) hbase hfew hline hs hplain) hsw) pss_wp, ht F H σ fps _ Eo fun F0 H0 v u0 l0 => ?_⟩
  obtain ⟨fpc0, r0, _⟩ := (Eo.up u0).loc hg l0
  obtain ⟨p, vs, rfl, _, h2, l, r⟩ := r0.ol_inv
  refine ⟨.inl ⟨rfl, vs, SqL.of h2⟩, h F0 H0 σ fps _ (Eo.up u0) fun F1 H1 w u r1 => ?_⟩
  have E1 := (Eo.up u0).up u
  have hlen : vs.length + 1 ≤ big := by rw [r.len, List.length_map]; exact hn
  refine ⟨p, vs, w, rfl, rfl, u.hp _ _ h2, Nat.lt_of_lt_of_le (Nat.lt_succ_self _) (Nat.le_trans hlen big_line), ?_⟩
  obtain ⟨fps2, E2, le2⟩ := E1.set1 (fq := []) hg (l0.mono u.hp) (fun fpc r a => by obtain ⟨p', _, e1, e2, _⟩ := r.ol_inv; cases e1; rw [e2]; simp) (.lst (vs ++ [w])) (.ol ((xs ++ [y]).map f)) (.ol upd_same (by rw [List.length_append]; exact hlen) (by rw [List.map_append]; exact (r.mono u.fr).append (.cons r1 .nil)))
  exact k F1 _ σ fps2 D E2 s (q.le ((u0.trans u).le.trans le2))
/-- xs.clear(), xs an own list -/
theorem run_clear {i : Nat} {π : List Nat} {t : Expr} {apos cpos : Pos} {ds : List Dt} {G' : Env} (hK : X.K = K) (ht : EP (one X) K G t i π) (hg : atG G i π = some (.ol ds)) (hG : updG G i π (.ol []) = G') (k : Run X K W sv rest G' o)
    (hbase : attributeBase t "clear" X.env (eval t X.env) = eval t X.env := by rfl)
    (hline : (apos.endLine == cpos.line) = true := by rfl)
    (hsw : swapsWith (.Call (.Attribute t "clear" apos) [] [] cpos) none pos.line X.env = pure false := by rfl) :
    Run X K W sv (.Expr (.Call (.Attribute t "clear" apos) [] [] cpos) pos :: rest) G o := fun F H σ fps D Eo s q => by
  subst hG
  refine ⟨tSeq (tDrop _) (wpSs X rest), pss_cons (ps_expr (pe_bm0 PySem.F.plainAttrs_list PySem.F.slot_list_clear PySem.F.type_list_clear mt_clear pe_w1 hbase hline) hsw) pss_wp, ht F H σ fps _ Eo fun F0 H0 v u0 l0 => ?_⟩
  obtain ⟨fpc0, r0, _⟩ := (Eo.up u0).loc hg l0
  obtain ⟨p, vs, rfl, _, h2, l, r⟩ := r0.ol_inv
  obtain ⟨fps2, E2, le2⟩ := (Eo.up u0).set1 (fq := []) hg l0 (fun fpc r a => by obtain ⟨p', _, e1, e2, _⟩ := r.ol_inv; cases e1; rw [e2]; simp) (.lst []) (.ol []) (.ol upd_same (Nat.zero_le _) .nil)
  exact ⟨.inl ⟨rfl, vs, SqL.of h2⟩, p, vs, rfl, rfl, h2, k F0 _ σ fps2 D E2 s (q.le (u0.le.trans le2))⟩
/-- xs[i] = e, xs an own list -/
theorem run_setL {A : Type} {i : Nat} {π : List Nat} {t e ie : Expr} {sp : Pos} {xs : List A} {y : A} {n : Int} {j : Nat} {G' : Env} (f : A → Dt) (ht : EP (one X) K G t i π) (hg : atG G i π = some (.ol (xs.map f))) (h : EX (one X) K G e (f y)) (hi : EX (one X) K G ie (.int n)) (hj : ixN xs.length n = some j) (hPG : PG X (.Subscript t ie sp) (gSub (wpE (one X) t) (wpE (one X) ie) rSetL))
    (hG : updG G i π (.ol ((xs.set j y).map f)) = G') (k : Run X K W sv rest G' o) (hs : swapsWithSole [.Subscript t ie sp] e pos.line X.env = pure false := by rfl)
    (hw : swappedStores [.Subscript t ie sp] e X.env = pure none := by rfl) (h1 : (assignEach [.Subscript t ie sp] X.env).map (·.2) = [assign (.Subscript t ie sp) X.env] := by rfl) :
    Run X K W sv (.Assign [.Subscript t ie sp] e pos :: rest) G o := fun F H σ fps D Eo s q => by
  subst hG
  refine ⟨tSeq (tAsg (wpE (one X) e) (gSub (wpE (one X) t) (wpE (one X) ie) rSetL)) (wpSs X rest), pss_cons (ps_asg pe_w1 hPG hs hw h1) pss_wp, h F H σ fps _ Eo fun F1 H1 w u r1 => ?_⟩
  refine ht F1 H1 σ fps _ (Eo.up u) fun F0 H0 v u0 l0 => ?_
  obtain ⟨fpc0, r0, _⟩ := ((Eo.up u).up u0).loc hg l0
  obtain ⟨p, vs, rfl, _, b2, l, r⟩ := r0.ol_inv
  refine hi F0 H0 σ fps _ ((Eo.up u).up u0) fun F2 H2 m u2 r2 => ?_
  cases r2
  have E2 := ((Eo.up u).up u0).up u2
  have hlen : vs.length = xs.length := by rw [r.len, List.length_map]
  have nw : RepL K F2 (vs.set j w) ((xs.set j y).map f) := by
    rw [List.map_set]
    exact repL_set (r.mono u2.fr) j (r1.mono (u0.trans u2).fr)
  obtain ⟨fps2, E3, le2⟩ := E2.set1 (fq := []) hg (l0.mono u2.hp) (fun fpc r a => by obtain ⟨p', _, e1, e2, _⟩ := r.ol_inv; cases e1; rw [e2]; simp) (.lst (vs.set j w)) (.ol ((xs.set j y).map f)) (.ol upd_same (by rw [List.length_set]; exact l) nw)
  exact ⟨p, vs, n, j, rfl, rfl, u2.hp _ _ b2, by rw [hlen]; exact hj, k F2 _ σ fps2 D E3 s (q.le (((u.trans u0).trans u2).le.trans le2))⟩
/-- what can't be -/
theorem run_no {ss : List Stmt} (h : False) : Run X K W sv ss G o := h.elim
end
end Vs

/-! while; plain laws of it. -/
namespace Vs
open PySem PySem.Spec L2
/-- so many turns of a while at most -/
def wloop {S T R : Type} (test : S → Bool) (step : S → Step S R) (io : R → T) (k : S → T) : Nat → S → T
  | 0, s => k s
  | n + 1, s => cond (test s) (match step s with
    | .nx s' => wloop test step io k n s'
    | .ct s' => wloop test step io k n s'
    | .bk s' => k s'
    | .fin y => io y) (k s)
def WAll {S R : Type} (P : S → Prop) (Q : S → Prop) (test : S → Bool) (step : S → Step S R) : Nat → S → Prop
  | 0, s => False
  | n + 1, s => P s ∧ (test s = true → match step s with
    | .nx s' => WAll P Q test step n s'
    | .ct s' => WAll P Q test step n s'
    | .bk s' => Q s'
    | .fin _ => True) ∧ (test s = false → Q s)
/-- turns of a while that there may be -/
def wmost : Nat := 1000000
section
variable {S T R : Type} {test : S → Bool} {step : S → Step S R} {io : R → T} {k : S → T} {P : S → Prop} {Q : S → Prop}
/-- by an invariant and a measure -/
theorem w_go (Inv : S → Prop) (μ : S → Nat) (hs : ∀ s, Inv s → P s ∧ (test s = true → ∃ s', (step s = .nx s' ∨ step s = .ct s') ∧ Inv s' ∧ μ s' < μ s) ∧ (test s = false → Q s)) :
    ∀ (n : Nat) (s : S), Inv s → μ s < n → WAll P Q test step n s ∧ ∃ s', wloop test step io k n s = k s' ∧ Inv s' ∧ test s' = false
  | 0, s, _, h => by omega
  | n + 1, s, hi, hm => by
    obtain ⟨hp, ht, hf⟩ := hs s hi
    unfold WAll wloop
    cases e : test s with
    | false => exact ⟨⟨hp, (fun z => by cases z), fun _ => hf e⟩, s, rfl, hi, e⟩
    | true =>
      obtain ⟨s', h1, h2, h3⟩ := ht e
      obtain ⟨a, b⟩ := w_go Inv μ hs n s' h2 (by omega)
      rcases h1 with h1 | h1
      · rw [h1]; exact ⟨⟨hp, (fun _ => a), fun z => by cases z⟩, b⟩
      · rw [h1]; exact ⟨⟨hp, (fun _ => a), fun z => by cases z⟩, b⟩
/-- .. that may end within -/
theorem w_fin (Inv : S → Prop) (μ : S → Nat) (C : T → Prop) (hk : ∀ s, Inv s → test s = false → C (k s)) (hs : ∀ s, Inv s → P s ∧ (test s = true → (∃ s', (step s = .nx s' ∨ step s = .ct s') ∧ Inv s' ∧ μ s' < μ s) ∨ (∃ s', step s = .bk s' ∧ Q s' ∧ C (k s')) ∨ ∃ y, step s = .fin y ∧ C (io y)) ∧ (test s = false → Q s)) :
    ∀ (n : Nat) (s : S), Inv s → μ s < n → WAll P Q test step n s ∧ C (wloop test step io k n s)
  | 0, s, _, h => by omega
  | n + 1, s, hi, hm => by
    obtain ⟨hp, ht, hf⟩ := hs s hi
    unfold WAll wloop
    cases e : test s with
    | false => exact ⟨⟨hp, (fun z => by cases z), fun _ => hf e⟩, hk s hi e⟩
    | true =>
      rcases ht e with ⟨s', h1, h2, h3⟩ | ⟨s', h1, h2, h3⟩ | ⟨y, h1, h2⟩
      · obtain ⟨a, b⟩ := w_fin Inv μ C hk hs n s' h2 (by omega)
        rcases h1 with h1 | h1
        · rw [h1]; exact ⟨⟨hp, (fun _ => a), fun z => by cases z⟩, b⟩
        · rw [h1]; exact ⟨⟨hp, (fun _ => a), fun z => by cases z⟩, b⟩
      · rw [h1]; exact ⟨⟨hp, (fun _ => h2), fun z => by cases z⟩, h3⟩
      · rw [h1]; exact ⟨⟨hp, (fun _ => trivial), fun z => by cases z⟩, h2⟩
end
section
variable {X : Cx} {K : PySem.W.Frag} {W : WX} {sv : Sv} {G : Env} {rest : List Stmt} {o : Out} {pos : Pos} {S T R : Type}
theorem run_while {c : Expr} {body : List Stmt} {P : S → Prop} {Q : S → Prop} {test : S → Bool} {step : S → Step S R} {io : R → T} {k : S → T} (n : Nat) {s0 : S} (Gs : S → Env) (E : T → Out)
    (hp : PassesOwn (model X.prog X.w) X.A X.env X.xe) (hE : ∀ y, Term (E (io y))) (h0 : Weak G (Gs s0)) (hP : WAll P Q test step n s0)
    (hc : ∀ s, P s → EB (one X) K (Gs s) c (test s))
    (hb : ∀ s, P s → test s = true → Run X K W sv body (Gs s) ((step s).out Gs fun y => E (io y)))
    (hk : ∀ s, Q s → Run X K W sv rest (Gs s) (E (k s))) : Run X K W sv (.While c body [] pos :: rest) G (E (wloop test step io k n s0)) := fun F H σ fps D Eo s q => by
  refine ⟨tSeq (tWhile (wpT (one X) c) (wpSs X body)) (wpSs X rest), pss_cons (ps_while hp pt_w1 pss_wp) pss_wp, ?_⟩
  refine ⟨fun m σ' H' => ∃ F' fps' s', EnvOk K F' H' σ' (Gs s') fps' ∧ Slf sv σ' ∧ Le (Owns fps) F H F' H' (Owns fps') ∧ wloop test step io k m s' = wloop test step io k n s0 ∧ WAll P Q test step m s', ⟨n, F, fps, s0, h0.ok Eo, s, Le.refl, rfl, hP⟩, ?_⟩
  rintro m σ' H' ⟨F', fps', s', e', sl', l', hw, hA⟩
  cases m with
  | zero => exact hA.elim
  | succ m =>
    unfold WAll at hA
    obtain ⟨hp', ht, hf⟩ := hA
    refine hc s' hp' F' H' σ' fps' _ e' fun F1 H1 u => ?_
    cases e : test s' with
    | false =>
      have hw' : k s' = wloop test step io k n s0 := by
        rw [← hw]
        show k s' = cond (test s') _ _
        rw [e]; rfl
      refine hk s' (hf e) F1 H1 σ' fps' D (e'.up u) sl' ?_
      rw [hw']
      exact q.le (l'.trans u.le)
    | true =>
      have ht2 := ht e
      refine ⟨fun σ2 H2 => ∃ F2 fps2 s2, EnvOk K F2 H2 σ2 (Gs s2) fps2 ∧ Slf sv σ2 ∧ Le (Owns fps) F H F2 H2 (Owns fps2) ∧ wloop test step io k m s2 = wloop test step io k n s0 ∧ WAll P Q test step m s2, fun σ2 H2 w2 => ⟨m, Nat.lt_succ_self m, w2⟩, ?_⟩
      refine hb s' hp' e F1 H1 σ' fps' _ (e'.up u) sl' ?_
      have hw2 : (match step s' with
        | .nx s2 => wloop test step io k m s2
        | .ct s2 => wloop test step io k m s2
        | .bk s2 => k s2
        | .fin y => io y) = wloop test step io k n s0 := by
        rw [← hw]
        show _ = cond (test s') _ _
        rw [e]; rfl
      have lx := l'.trans (u.le (O := Owns fps'))
      revert hw2 ht2
      cases step s' with
      | nx s2 => exact fun ht2 hw2 F2 H2 σ2 fps2 e2 sl2 l2 => ⟨F2, fps2, s2, e2, sl2, lx.trans l2, hw2, ht2⟩
      | ct s2 => exact fun ht2 hw2 F2 H2 σ2 fps2 e2 sl2 l2 => ⟨F2, fps2, s2, e2, sl2, lx.trans l2, hw2, ht2⟩
      | bk s2 =>
        intro ht2 hw2 F2 H2 σ2 fps2 e2 sl2 l2
        refine hk s2 ht2 F2 H2 σ2 fps2 D e2 sl2 ?_
        rw [show k s2 = wloop test step io k n s0 from hw2]
        exact q.le (lx.trans l2)
      | fin y =>
        intro ht2 hw2
        show Fin K W sv _ F1 H1 fps' (E (io y))
        have hT := hE y
        rw [show io y = wloop test step io k n s0 from hw2] at hT ⊢
        refine Fin.term (D := D) ?_ hT (q.le lx)
        rfl
theorem run_whileQ {c : Expr} {body : List Stmt} {P : S → Prop} {Q : S → Prop} {test : S → Bool} {step : S → Step S R} {io : R → T} {k : S → T} {s0 : S} (Gs : S → Env) (E : T → Out)
    (hp : PassesOwn (model X.prog X.w) X.A X.env X.xe) (hE : ∀ y, Term (E (io y))) (h0 : Weak G (Gs s0)) (hP : WAll P Q test step wmost s0)
    (hc : ∀ s, P s → EB (one X) K (Gs s) c (test s))
    (hb : ∀ s, P s → test s = true → Run X K W sv body (Gs s) ((step s).out Gs fun y => E (io y)))
    (hk : ∀ s, Q s → Run X K W sv rest (Gs s) (E (k s))) (ho : E (wloop test step io k wmost s0) = o := by rfl) : Run X K W sv (.While c body [] pos :: rest) G o := ho ▸ run_while wmost Gs E hp hE h0 hP hc hb hk
end
end Vs

/-! Plain laws about the words that printed mirrors use. -/
namespace Vs
open PySem PySem.Spec L2
/-- a loop that goes through, by what holds at each turn -/
theorem loop_inv {A S T R : Type} {step : S → A → Step S R} {io : R → T} {k : S → T} {P : S → A → Prop} {Q : S → Prop} (Inv : Nat → S → Prop) : ∀ (xs : List A) (n : Nat) (s : S), Inv n s →
    (∀ i x s, xs[i]? = some x → Inv (n + i) s → P s x ∧ ∃ s', (step s x = .nx s' ∨ step s x = .ct s') ∧ Inv (n + i + 1) s') → (∀ s, Inv (n + xs.length) s → Q s) →
    LoopAll P Q step xs s ∧ ∃ s', loop step io k xs s = k s' ∧ Inv (n + xs.length) s'
  | [], n, s, h0, _, hq => ⟨hq s h0, s, rfl, h0⟩
  | x :: xs, n, s, h0, hs, hq => by
    obtain ⟨hp, s', hst, h1⟩ := hs 0 x s rfl h0
    have e : n + (x :: xs).length = n + 1 + xs.length := by simp only [List.length_cons]; omega
    obtain ⟨a, s2, b, c⟩ := loop_inv (step := step) (io := io) (k := k) (P := P) (Q := Q) Inv xs (n + 1) s' h1 (fun i y t hy ht => by
      have := hs (i + 1) y t hy (by rw [show n + (i + 1) = n + 1 + i by omega]; exact ht)
      rw [show n + (i + 1) + 1 = n + 1 + i + 1 by omega] at this
      exact this) (fun t ht => hq t (by rw [e]; exact ht))
    refine ⟨⟨hp, ?_⟩, s2, ?_, by rw [e]; exact c⟩
    · rcases hst with hst | hst <;> rw [hst] <;> exact a
    · unfold loop
      rcases hst with hst | hst <;> rw [hst] <;> exact b
theorem loop_go {A S T R : Type} {step : S → A → Step S R} {io : R → T} {k : S → T} {P : S → A → Prop} {Q : S → Prop} (Inv : Nat → S → Prop) {xs : List A} {s : S} (h0 : Inv 0 s)
    (hs : ∀ i x s, xs[i]? = some x → Inv i s → P s x ∧ ∃ s', (step s x = .nx s' ∨ step s x = .ct s') ∧ Inv (i + 1) s') (hq : ∀ s, Inv xs.length s → Q s) :
    LoopAll P Q step xs s ∧ ∃ s', loop step io k xs s = k s' ∧ Inv xs.length s' := by
  have := loop_inv (step := step) (io := io) (k := k) (P := P) (Q := Q) Inv xs 0 s h0 (fun i x t hx ht => by
    rw [Nat.zero_add] at ht ⊢
    exact hs i x t hx ht) (fun t ht => hq t (by rw [Nat.zero_add] at ht; exact ht))
  rw [Nat.zero_add] at this
  exact this
/-- a search: the first item that ends it -/
theorem loop_all {A T : Type} {step : Unit → A → Step Unit T} {k : Unit → T} {p : A → Bool} {y : T} (h : ∀ x, step () x = cond (p x) (.fin y) (.nx ())) : ∀ xs : List A, loop step (fun z => z) k xs () = cond (xs.any p) y (k ())
  | [] => rfl
  | x :: xs => by
    unfold loop
    rw [h x, List.any_cons]
    cases p x with
    | true => rfl
    | false => exact loop_all h xs
theorem mem_range_get {n i x : Nat} (h : (List.range n)[i]? = some x) : x = i ∧ i < n := by
  obtain ⟨h1, h2⟩ := List.getElem?_eq_some_iff.mp h
  rw [List.getElem_range] at h2
  rw [List.length_range] at h1
  exact ⟨h2.symm, h1⟩
theorem inI_nn {A : Type} {xs : List A} {i : Int} (h0 : 0 ≤ i) (h1 : i < xs.length) : inI xs i = true := by
  unfold inI ixN
  rw [if_pos h0, if_pos h1]; rfl
theorem itm_nn {A : Type} [Inhabited A] {xs : List A} {i : Int} (h0 : 0 ≤ i) (h1 : i < xs.length) : itm xs i = xs.getD i.toNat default := by
  unfold itm atI ixN
  rw [if_pos h0, if_pos h1]
  show (xs[i.toNat]?).getD default = _
  rw [List.getD_eq_getElem?_getD]
theorem atI_nn {A : Type} {xs : List A} {i : Int} (h0 : 0 ≤ i) (h1 : i < xs.length) : (atI xs i).isSome = true := by
  unfold atI ixN
  rw [if_pos h0, if_pos h1]
  show (xs[i.toNat]?).isSome = true
  rw [List.getElem?_eq_getElem (by omega)]; rfl
theorem atI_get {A : Type} {xs : List A} {i : Int} (h0 : 0 ≤ i) (h1 : i < xs.length) : atI xs i = xs[i.toNat]? := by
  unfold atI ixN
  rw [if_pos h0, if_pos h1]; rfl
theorem str_len (s : Str) : s.length = s.cps.toList.length := by simp [Str.length]
theorem len_sgn (s : Str) (i : Int) : (sgn s i).length = 1 := rfl
theorem len_cut_le (z : Str) (lo hi : Option Int) : (cutS z lo hi).length ≤ z.length := len_cutS z lo hi
/-- every sign of a text stands in another -/
def allIn (s t : Str) : Bool := s.cps.toList.all fun c => decide (c ∈ t.cps.toList)
theorem allIn_app (s t u : Str) : allIn (s ++ t) u = (allIn s u && allIn t u) := by
  unfold allIn
  have e : (s ++ t).cps.toList = s.cps.toList ++ t.cps.toList := by
    show (s.cps ++ t.cps).toList = _
    exact Array.toList_append
  rw [e, List.all_append]
end Vs

/-! Plain laws about texts: words, great letters, statements. -/
namespace Vs
open PySem PySem.Spec L2 TL PySem.StrLaws
theorem at0 {x y : Str} (hy : tl y ≠ []) : Txt.startswith x y = pre (tl y) (tl x) := by
  have h := at_iff (x := x) hy 0
  rw [List.drop_zero] at h
  have e : Txt.startswith x y = true ↔ At x y x.length 0 := by
    unfold Txt.startswith At
    simp
  rw [Bool.eq_iff_iff, e, h]
theorem atEnd {x y : Str} (hy : tl y ≠ []) (hl : y.length ≤ x.length) : Txt.endswith x y = pre (tl y) ((tl x).drop (x.length - y.length)) := by
  have h := at_iff (x := x) hy (x.length - y.length)
  have e : Txt.endswith x y = true ↔ At x y x.length (x.length - y.length) := by
    unfold Txt.endswith At
    simp
    omega
  rw [Bool.eq_iff_iff, e, h]
theorem tl_cut1 (z : Str) : tl (cutS z (some 1) none) = (tl z).drop 1 := by
  have e : tl (cutS z (some 1) none) = ((tl z).drop (min 1 z.length)).take (z.length - min 1 z.length) := rfl
  rw [e, len_tl]
  by_cases h : 1 ≤ (tl z).length
  · rw [Nat.min_eq_left h, List.take_of_length_le (by rw [List.length_drop]; omega)]
  · have : tl z = [] := List.eq_nil_of_length_eq_zero (by omega)
    rw [this]; rfl
theorem tl_cutm (z : Str) : tl (cutS z none (some (-1))) = (tl z).take ((tl z).length - 1) := by
  have e : tl (cutS z none (some (-1))) = ((tl z).drop 0).take ((-1 + (z.length : Int)).toNat - 0) := rfl
  rw [e, len_tl, List.drop_zero]
  congr 1
  omega
def smT : Str := "abcdefghijklmnopqrstuvwxyz"
def grT : Str := "ABCDEFGHIJKLMNOPQRSTUVWXYZ"
/-- one to eight small letters -/
structure Wd (s : Str) : Prop where
  ne : 1 ≤ (tl s).length
  le : (tl s).length ≤ 8
  sm : ∀ c ∈ tl s, c ∈ tl smT
/-- one great letter -/
def Lt (s : Str) : Prop := ∃ c, c ∈ tl grT ∧ s = ⟨#[c]⟩
theorem small_lo : ∀ c ∈ tl smT, 97 ≤ c ∧ c ≤ 122 := by decide +kernel
theorem great_lo : ∀ c ∈ tl grT, 65 ≤ c ∧ c ≤ 90 := by decide +kernel
theorem great_letter : ∀ c ∈ tl grT, inS ⟨#[c]⟩ grT = true := by decide +kernel
theorem small_not : ∀ c ∈ tl smT, c ∉ tl grT := by decide +kernel
/-- a place: a thing or a letter -/
def Pl (s : Str) : Prop := Wd s ∨ Lt s
theorem Pl.len {s : Str} (h : Pl s) : 1 ≤ (tl s).length ∧ (tl s).length ≤ 8 := by
  rcases h with h | ⟨c, _, rfl⟩
  · exact ⟨h.ne, h.le⟩
  · exact ⟨Nat.le_refl 1, by show 1 ≤ 8; omega⟩
theorem Pl.hi {s : Str} (h : Pl s) : ∀ c ∈ tl s, 65 ≤ c := by
  rcases h with h | ⟨c, hc, rfl⟩
  · intro c hc
    have := small_lo c (h.sm c hc)
    omega
  · intro d hd
    have e : d = c := by
      have : tl (⟨#[c]⟩ : Str) = [c] := rfl
      rw [this] at hd
      simpa using hd
    subst e
    have := great_lo d hc
    omega
theorem Wd.hi {s : Str} (h : Wd s) : ∀ c ∈ tl s, 65 ≤ c := Pl.hi (.inl h)
theorem allIn_sm {s : Str} (h : Wd s) : allIn s smT = true := List.all_eq_true.mpr fun c hc => decide_eq_true (h.sm c hc)
theorem wd_of {s : Str} (h1 : 1 ≤ s.length) (h2 : s.length ≤ 8) (h3 : allIn s smT = true) : Wd s :=
  ⟨by rw [← len_tl]; exact h1, by rw [← len_tl]; exact h2, fun c hc => of_decide_eq_true (List.all_eq_true.mp h3 c hc)⟩
theorem sgn_mem {z : Str} {i : Int} (h0 : 0 ≤ i) (h1 : i < z.length) : ∃ c, c ∈ tl z ∧ sgn z i = ⟨#[c]⟩ := by
  rw [len_tl] at h1
  refine ⟨(tl z)[i.toNat]'(by omega), List.getElem_mem _, ?_⟩
  unfold sgn
  rw [atI_get h0 h1]
  rw [List.getElem?_eq_getElem (by omega)]
  rfl
theorem tl_nil : tl (Str.ofString "") = [] := by decide +kernel
theorem tl_minus : tl (Str.ofString "-") = [45] := by decide +kernel
theorem tl_open : tl (Str.ofString "(") = [40] := by decide +kernel
theorem tl_close : tl (Str.ofString ")") = [41] := by decide +kernel
theorem tl_comma : tl (Str.ofString ",") = [44] := by decide +kernel
theorem app_nil (s : Str) : s ++ Str.ofString "" = s := ext_tl (by rw [tl_append, tl_nil, List.append_nil])
theorem nil_app (s : Str) : Str.ofString "" ++ s = s := ext_tl (by rw [tl_append, tl_nil, List.nil_append])
theorem app_asc (s t u : Str) : s ++ t ++ u = s ++ (t ++ u) := ext_tl (by simp only [tl_append, List.append_assoc])
/-- what stands in brackets, with its end -/
def inside (ps : List Str) : Str := Txt.join (Str.ofString ",") ps ++ Str.ofString ")"
theorem cut_inside (ps : List Str) : cutS (inside ps) none (some (-1)) = Txt.join (Str.ofString ",") ps := ext_tl (by
  rw [tl_cutm]
  unfold inside
  rw [tl_append, tl_close]
  simp)
theorem ends_inside (ps : List Str) : Txt.endswith (inside ps) (Str.ofString ")") = true := by
  have hl : (Str.ofString ")").length = 1 := by rw [len_tl, tl_close]; rfl
  have hn : (inside ps).length = (tl (Txt.join (Str.ofString ",") ps)).length + 1 := by
    rw [len_tl]; unfold inside; rw [tl_append, tl_close]; simp
  rw [atEnd (by rw [tl_close]; simp) (by rw [hl, hn]; omega), hl, hn, tl_close]
  unfold inside
  rw [tl_append, tl_close]
  simp [pre]
theorem split_places {ps : List Str} (hne : ps ≠ []) (h : ∀ p ∈ ps, Pl p) : Txt.split (Txt.join (Str.ofString ",") ps) (Str.ofString ",") = ps :=
  split_join tl_comma (by decide +kernel) hne fun p hp hm => by
    have := Pl.hi (h p hp) _ hm
    omega
theorem inside_ne (ps : List Str) : (inside ps == Str.ofString "") = false := by
  cases e : inside ps == Str.ofString "" with
  | false => rfl
  | true =>
    have e2 := congrArg (fun s => (tl s).length) (LawfulBEq.eq_of_beq e)
    rw [tl_nil] at e2
    unfold inside at e2
    rw [tl_append, tl_close] at e2
    simp at e2
/-- a statement without its side -/
def bare (name : Str) (ps : List Str) : Str := match ps with
  | [] => name
  | p :: r => name ++ Str.ofString "(" ++ inside (p :: r)
/-- a side -/
def Sd (s : Str) : Prop := s = Str.ofString "" ∨ s = Str.ofString "-"
structure St (p : Str × Str × List Str) : Prop where
  sd : Sd p.1
  wd : Wd p.2.1
  two : p.2.2.length ≤ 2
  pl : ∀ x ∈ p.2.2, Pl x
def stT (p : Str × Str × List Str) : Str := p.1 ++ bare p.2.1 p.2.2
def openT : List Str → Str
  | [] => Str.ofString ""
  | _ :: _ => Str.ofString "("
def tailT : List Str → Str
  | [] => Str.ofString ""
  | p :: r => inside (p :: r)
theorem open_tail (ps : List Str) : (openT ps == Str.ofString "") = (tailT ps == Str.ofString "") := by
  cases ps with
  | nil => rfl
  | cons p r =>
    show (Str.ofString "(" == Str.ofString "") = (inside (p :: r) == Str.ofString "")
    rw [inside_ne]
    decide +kernel
theorem bare_part {name : Str} {ps : List Str} (hw : Wd name) : Txt.partition (bare name ps) (Str.ofString "(") = (name, openT ps, tailT ps) := by
  have hf : (40 : Nat) ∉ tl name := fun hm => by have := hw.hi _ hm; omega
  cases ps with
  | nil =>
    show Txt.partition name _ = _
    rw [partition_none tl_open hf]
    have e : Str.empty = Str.ofString "" := ext_tl (by rw [tl_nil]; rfl)
    rw [e]
    rfl
  | cons p r => exact partition_app tl_open hf
theorem bare_head {name : Str} {ps : List Str} (hw : Wd name) : ∃ c l, tl (bare name ps) = c :: l ∧ 65 ≤ c := by
  have h1 := hw.ne
  cases e : tl name with
  | nil => rw [e] at h1; cases h1
  | cons c l =>
    have hc := hw.hi c (by rw [e]; simp)
    cases ps with
    | nil => exact ⟨c, l, e, hc⟩
    | cons p r => exact ⟨c, l ++ tl (Str.ofString "(") ++ tl (inside (p :: r)), by
        show tl (name ++ _ ++ _) = _
        rw [tl_append, tl_append, e]; simp, hc⟩
theorem bare_no {name : Str} {ps : List Str} (hw : Wd name) : Txt.startswith (bare name ps) (Str.ofString "-") = false := by
  obtain ⟨c, l, e, hc⟩ := bare_head (ps := ps) hw
  rw [at0 (by rw [tl_minus]; simp), tl_minus, e]
  exact pre_of_head _ _ (by omega)
theorem minus_yes (s : Str) : Txt.startswith (Str.ofString "-" ++ s) (Str.ofString "-") = true := by
  rw [at0 (by rw [tl_minus]; simp), tl_append]
  exact pre_self _ _
theorem minus_cut (s : Str) : cutS (Str.ofString "-" ++ s) (some 1) none = s := ext_tl (by
  rw [tl_cut1, tl_append, tl_minus]; rfl)
theorem stT_none (n : Str) (ps : List Str) : stT (Str.ofString "", n, ps) = bare n ps := nil_app _
theorem stT_minus (n : Str) (ps : List Str) : stT (Str.ofString "-", n, ps) = Str.ofString "-" ++ bare n ps := rfl
theorem len_cutL {A : Type} (xs : List A) (lo hi : Option Int) : (cut xs lo hi).length ≤ xs.length := by
  unfold cut
  rw [List.length_take, List.length_drop]
  omega
theorem join_len : ∀ {ps : List Str}, ps.length ≤ 2 → (∀ x ∈ ps, Pl x) → (Txt.join (Str.ofString ",") ps).length ≤ 17
  | [], _, _ => by rw [join_eq, len_tl, tl_join]; show 0 ≤ 17; omega
  | [p], _, h => by
    have := Pl.len (h p (by simp))
    rw [join_eq, len_tl, tl_join]
    show (tl p).length ≤ 17
    omega
  | [p, q], _, h => by
    have h1 := Pl.len (h p (by simp))
    have h2 := Pl.len (h q (by simp))
    rw [join_eq, len_tl, tl_join, tl_comma]
    show (tl p ++ ([44] ++ tl q)).length ≤ 17
    simp only [List.length_append, List.length_cons, List.length_nil]
    omega
  | p :: q :: r :: s, h, _ => by simp at h
theorem join1 (p : Str) : Txt.join (Str.ofString ",") [p] = p := by rw [join_eq]; exact ext_tl (by rw [tl_join]; rfl)
theorem join2 (p q : Str) : Txt.join (Str.ofString ",") [p, q] = p ++ Str.ofString "," ++ q := by
  rw [join_eq]; exact ext_tl (by rw [tl_join, tl_append, tl_append, List.append_assoc]; rfl)
theorem sd_len {s : Str} (h : Sd s) : s.length ≤ 1 := by
  rcases h with rfl | rfl
  · rw [len_tl, tl_nil]; show 0 ≤ 1; omega
  · rw [len_tl, tl_minus]; show 1 ≤ 1; omega
theorem ch_len (s : String) {n : Nat} (h : (s.toList).length = n) : (Str.ofString s).length = n := by
  rw [len_tl, tl_ofString, List.length_map, h]
theorem name_len {s : Str} (h : Wd s) : s.length ≤ 8 := by rw [len_tl]; exact h.le
theorem bare_len {name : Str} {ps : List Str} (hw : Wd name) (h2 : ps.length ≤ 2) (h : ∀ x ∈ ps, Pl x) : (bare name ps).length ≤ 27 := by
  have hn := name_len hw
  have hj := join_len h2 h
  cases ps with
  | nil => show name.length ≤ 27; omega
  | cons p r =>
    show (name ++ _ ++ inside (p :: r)).length ≤ 27
    unfold inside
    rw [len_app, len_app, len_app, ch_len "(" (n := 1) rfl, ch_len ")" (n := 1) rfl]
    omega
theorem inS_head {s t : Str} {c : Nat} {l : List Nat} (e : tl s = c :: l) (h : c ∉ tl t) : inS s t = false := by
  cases q : inS s t with
  | false => rfl
  | true =>
    obtain ⟨i, hi⟩ := (StrLaws.found_iff t s).mp q
    have h2 := (at_iff (x := t) (y := s) (by rw [e]; simp) i).mp hi
    rw [e] at h2
    have h3 : ((tl t).drop i).take (c :: l).length = c :: l := eq_of_beq h2
    have h4 : c ∈ ((tl t).drop i).take (c :: l).length := by rw [h3]; simp
    exact absurd (List.mem_of_mem_drop (List.mem_of_mem_take h4)) h
theorem inS_one (c : Nat) (t : Str) : inS ⟨#[c]⟩ t = decide (c ∈ tl t) := StrLaws.found_one t c
theorem wd_not {s t : Str} (h : Wd s) (ht : ∀ c ∈ tl t, c ≤ 90) : inS s t = false := by
  have h1 := h.ne
  cases e : tl s with
  | nil => rw [e] at h1; cases h1
  | cons c l =>
    refine inS_head e fun hc => ?_
    have a := ht c hc
    have b := (small_lo c (h.sm c (by rw [e]; simp))).1
    omega
end Vs

/-! Dicts: seen, own, copied, told alike. -/
namespace Vs
open PySem PySem.Spec L2
/-- the pairs of a dict -/
def encK {κ A : Type} (g : κ → Key) (f : A → Dt) (kvs : List (κ × A)) : List (Key × Dt) := kvs.map fun z => (g z.1, f z.2)
def gets {κ A : Type} [DecidableEq κ] : List (κ × A) → κ → Option A
  | [], _ => none
  | p :: r, k => if p.1 = k then some p.2 else gets r k
def puts {κ A : Type} [DecidableEq κ] : List (κ × A) → κ → A → List (κ × A)
  | [], k, a => [(k, a)]
  | p :: r, k, a => if p.1 = k then (p.1, a) :: r else p :: puts r k a
theorem puts_len {κ A : Type} [DecidableEq κ] (k : κ) (a : A) : ∀ kvs : List (κ × A), (puts kvs k a).length ≤ kvs.length + 1
  | [] => Nat.le_refl 1
  | p :: r => by
    unfold puts
    split
    · simp
    · have := puts_len k a r
      simp only [List.length_cons]; omega
theorem mem_puts {κ A : Type} [DecidableEq κ] {k : κ} {a : A} : ∀ {kvs : List (κ × A)} {z : κ × A}, z ∈ puts kvs k a → z = (k, a) ∨ z ∈ kvs
  | [], z, h => .inl (by simpa [puts] using h)
  | p :: r, z, h => by
    unfold puts at h
    split at h
    · rename_i e
      rcases List.mem_cons.mp h with h | h
      · exact .inl (by rw [h, e])
      · exact .inr (List.mem_cons_of_mem _ h)
    · rcases List.mem_cons.mp h with h | h
      · exact .inr (by rw [h]; exact List.mem_cons_self)
      · rcases mem_puts h with h | h
        · exact .inl h
        · exact .inr (List.mem_cons_of_mem _ h)
theorem puts_nodup {κ A : Type} [DecidableEq κ] {k : κ} {a : A} : ∀ {kvs : List (κ × A)}, (kvs.map (·.1)).Nodup → ((puts kvs k a).map (·.1)).Nodup
  | [], _ => by simp [puts]
  | p :: r, h => by
    rw [List.map_cons, List.nodup_cons] at h
    unfold puts
    split
    · rw [List.map_cons, List.nodup_cons]; exact h
    · rename_i e
      rw [List.map_cons, List.nodup_cons]
      refine ⟨fun hm => ?_, puts_nodup h.2⟩
      obtain ⟨z, hz, hz'⟩ := List.mem_map.mp hm
      rcases mem_puts hz with rfl | hz
      · exact e hz'.symm
      · exact h.1 (List.mem_map.mpr ⟨z, hz, hz'⟩)
section
variable {κ A : Type} [DecidableEq κ] {g : κ → Key} (hg : ∀ a b, g a = g b → a = b) {f : A → Dt} {K : PySem.W.Frag} {F : Hp}
include hg
theorem repK_get (k : κ) : ∀ {kvs : List (κ × A)} {vs : List (Key × V)}, RepK K F vs (encK g f kvs) → (gets kvs k = none ∧ valV vs (g k) = none) ∨ ∃ a v, gets kvs k = some a ∧ valV vs (g k) = some v ∧ Rep K F v (f a)
  | [], _, .nil => .inl ⟨rfl, rfl⟩
  | (j, a) :: r, _, .cons (v := v) (vs := vs) o h t => by
    by_cases e : j = k
    · subst e
      exact .inr ⟨a, v, by simp [gets], valV_pos rfl, h⟩
    · have e' : ¬ (g j, v).1 = g k := fun z => e (hg _ _ z)
      rw [valV_neg e']
      have e2 : gets ((j, a) :: r) k = gets r k := by simp [gets, e]
      rw [e2]
      exact repK_get k t
theorem repK_put (k : κ) {v : V} {a : A} (ho : kOk (g k) = true) (hv : Rep K F v (f a)) : ∀ {kvs : List (κ × A)} {vs : List (Key × V)}, (kvs.map (·.1)).Nodup → RepK K F vs (encK g f kvs) → RepK K F (putK vs (g k) v) (encK g f (puts kvs k a))
  | [], _, _, .nil => .cons ho hv .nil
  | (j, b) :: r, _, nd, .cons (v := w) (vs := vs) o h t => by
    rw [List.map_cons, List.nodup_cons] at nd
    by_cases e : j = k
    · subst e
      have e2 : puts ((j, b) :: r) j a = (j, a) :: r := by simp [puts]
      rw [e2]
      have ht : ∀ {kvs : List (κ × A)} {vs : List (Key × V)}, j ∉ kvs.map (·.1) → RepK K F vs (encK g f kvs) → (vs.map fun kv => if kv.1 = g j then (kv.1, v) else kv) = vs := by
        intro kvs
        induction kvs with
        | nil => intro vs _ q; cases q; rfl
        | cons z s ih =>
          intro vs hn q
          cases q with
          | cons h0 h1 h2 =>
            rw [List.map_cons, List.mem_cons, not_or] at hn
            rw [List.map_cons, ih hn.2 h2, if_neg (fun x => hn.1 (hg _ _ x).symm)]
      unfold putK
      rw [if_pos (by simp), List.map_cons, if_pos rfl, ht nd.1 t]
      exact .cons ho hv t
    · have e' : ¬ g j = g k := fun z => e (hg _ _ z)
      have e2 : puts ((j, b) :: r) k a = (j, b) :: puts r k a := by simp [puts, e]
      have e3 : putK ((g j, w) :: vs) (g k) v = (g j, w) :: putK vs (g k) v := by
        unfold putK
        rw [List.any_cons]
        simp only [e', decide_false, Bool.false_or, List.map_cons, if_false]
        split <;> rfl
      rw [e2, e3]
      exact .cons o h (repK_put k ho hv nd.2 t)
end
theorem repK_len {κ A : Type} {g : κ → Key} {f : A → Dt} {K : PySem.W.Frag} {F : Hp} : ∀ {kvs : List (κ × A)} {vs : List (Key × V)}, RepK K F vs (encK g f kvs) → vs.length = kvs.length
  | [], _, .nil => rfl
  | _ :: r, _, .cons _ _ t => by rw [List.length_cons, List.length_cons, repK_len t]
theorem repK_keys {κ A : Type} {g : κ → Key} {f : A → Dt} {K : PySem.W.Frag} {F : Hp} : ∀ {kvs : List (κ × A)} {vs : List (Key × V)}, RepK K F vs (encK g f kvs) → vs.map (·.1) = kvs.map fun z => g z.1
  | [], _, .nil => rfl
  | _ :: r, _, .cons _ _ t => by rw [List.map_cons, List.map_cons, repK_keys t]
/-- data whose value is one and flat -/
structure FlatD {A : Type} (f : A → Dt) : Prop where
  fl : ∀ K F v a, Rep K F v (f a) → flatB v = true
  un : ∀ K F v w a, Rep K F v (f a) → Rep K F w (f a) → v = w
theorem flat_str : FlatD Dt.str := ⟨fun _ _ _ _ h => by cases h; rfl, fun _ _ _ _ _ h h' => by cases h; cases h'; rfl⟩
theorem flat_int : FlatD Dt.int := ⟨fun _ _ _ _ h => by cases h; rfl, fun _ _ _ _ _ h h' => by cases h; cases h'; rfl⟩
theorem repK_un {κ A : Type} {g : κ → Key} {f : A → Dt} (d : FlatD f) {K : PySem.W.Frag} {F : Hp} : ∀ {kvs : List (κ × A)} {vs ws : List (Key × V)}, RepK K F vs (encK g f kvs) → RepK K F ws (encK g f kvs) → vs = ws ∧ ∀ p ∈ vs, flatB p.2 = true
  | [], _, _, .nil, .nil => ⟨rfl, by simp⟩
  | _ :: r, _, _, .cons _ h t, .cons _ h' t' => by
    obtain ⟨e, q⟩ := repK_un d t t'
    obtain rfl := d.un _ _ _ _ _ h h'
    refine ⟨by rw [e], fun p hp => ?_⟩
    rcases List.mem_cons.mp hp with rfl | hp
    · exact d.fl _ _ _ _ h
    · exact q p hp
theorem nodup_un {κ A : Type} {g : κ → Key} {f : A → Dt} {K : PySem.W.Frag} {F : Hp} {kvs : List (κ × A)} {vs : List (Key × V)} (r : RepK K F vs (encK g f kvs)) (h : (vs.map (·.1)).Nodup) : (kvs.map (·.1)).Nodup := by
  rw [repK_keys r] at h
  have e : (kvs.map fun z => g z.1) = (kvs.map (·.1)).map g := by rw [List.map_map]; rfl
  rw [e] at h
  unfold List.Nodup at h ⊢
  rw [List.pairwise_map] at h
  exact h.imp fun hab z => hab (by rw [z])
theorem nodup_g {κ A : Type} {g : κ → Key} (hgi : ∀ a b, g a = g b → a = b) {kvs : List (κ × A)} (h : (kvs.map (·.1)).Nodup) : (kvs.map fun z => g z.1).Nodup := by
  have e : (kvs.map fun z => g z.1) = (kvs.map (·.1)).map g := by rw [List.map_map]; rfl
  rw [e]
  exact List.Pairwise.map g (fun a b (hab : a ≠ b) z => hab (hgi a b z)) h
/-- does it stand there? -/
def hasK {κ A : Type} [DecidableEq κ] (kvs : List (κ × A)) (k : κ) : Bool := (gets kvs k).isSome
abbrev keyD : Key → Dt
  | .inl i => .int i
  | .inr s => .str s
section
variable {I : Type}
/-- e gives a dict that is seen -/
def ED (X : I → Cx) (K : PySem.W.Frag) (G : Env) (e : Expr) (ds : List (Key × Dt)) : Prop :=
  ∀ F H σ fps (Q : VK), EnvOk K F H σ G fps → (∀ F' H' p vs, Up F H F' H' → Rd H' p (.dK vs) → vs.length ≤ big → RepK K F' vs ds → (vs.map (·.1)).Nodup → Q (.ref p) H') → wpE X e σ H Q
variable {X : I → Cx} {K : PySem.W.Frag} {G : Env}
theorem EX.ed {e : Expr} {ds : List (Key × Dt)} (h : EX X K G e (.dic ds)) : ED X K G e ds := fun F H σ fps Q k q =>
  h F H σ fps Q k fun F1 H1 v u r => by
    cases r with
    | dic h1 l r n => exact q F1 H1 _ _ u (u.sb.rd h1) l r n
theorem EN.ed {e : Expr} {ds : List (Key × Dt)} (h : EN X K G e (.od ds)) : ED X K G e ds := fun F H σ fps Q k q =>
  h F H σ fps Q k fun F1 H1 v fp u r n => by
    obtain ⟨p, vs, rfl, rfl, h1, l, r, nd⟩ := r.od_inv
    exact q F1 H1 _ _ u (.inl h1) l r nd
theorem EP.ed {e : Expr} {i : Nat} {π : List Nat} {ds : List (Key × Dt)} (h : EP X K G e i π) (hg : atG G i π = some (.od ds)) : ED X K G e ds := fun F H σ fps Q E q =>
  h F H σ fps _ E fun F1 H1 v u l => by
    obtain ⟨fpc, r, _⟩ := (E.up u).loc hg l
    obtain ⟨p, vs, rfl, _, h2, l, r, nd⟩ := r.od_inv
    exact q F1 H1 p vs u (.inl h2) l r nd
/-- dict(d) -/
theorem en_dict {e : Expr} {p pos : Pos} {ds : List (Key × Dt)} (h : ED X K G e ds) (hg : ∀ j, Gl (X j) "dict") (hm : ∀ j, (X j).mg "dict" = none)
    (he : ∀ j, starEach [e] (X j).env = [(false, eval e (X j).env)] := by intro _; rfl) : EN X K G (.Call (.Name "dict" p) [e] [] pos) (.od ds) := fun F H σ fps Q k q =>
  ⟨tCB (fun xs H Q => ∃ (a : Addr) (kvs : List (Key × V)), xs = [.ref a] ∧ Rd H a (.dK kvs) ∧ ∀ p, H p = none → Q (.ref p) (upd H p (.dK kvs))) (tCons (wpE X e) tNil), fun j => pe_callTy call_dictD (hg j) (hm j) (by decide +kernel) (pa_cons (pe_wp j) pa_nil (he j)) (by decide) (by decide) (he j) rfl, h F H σ fps _ k fun F1 H1 p vs u r l rl nd => by
    refine ⟨p, vs, rfl, r, fun D hD => ?_⟩
    have n0 : H D = none := u.hp.free hD
    refine q F1 (upd H1 D (.dK vs)) (.ref D) [D] (u.trans (Up.layH u.sb hD)) (.od upd_same l rl nd) fun a ha => ?_
    obtain rfl : a = D := by simpa using ha
    exact ⟨n0, u.sb.none hD, by rw [upd_same]; simp⟩⟩
theorem Up.rd {F H F' H' : Hp} (u : Up F H F' H') {a : Addr} {o : HO} (h : Rd H a o) : Rd H' a o := by
  rcases h with h | ⟨b, h⟩
  · exact .inl (u.hp _ _ h)
  · exact .inr ⟨b, u.hp _ _ h⟩
section
variable {κ A : Type} [DecidableEq κ] {g : κ → Key} {kvs : List (κ × A)} {k : κ} (f : A → Dt) (hgi : ∀ a b, g a = g b → a = b) (hk : ∀ F v, Rep K F v (match g k with | .inl i => .int i | .inr s => .str s) → v = kV (g k))
include hgi hk
/-- d.get(k, e) -/
theorem x_get2 {o e f' : Expr} {apos pos : Pos} {a : A} (hu : ∀ j, (X j).A.units + 64 < cLine) (ho : ED X K G o (encK g f kvs)) (he : EX X K G e (match g k with | .inl i => .int i | .inr s => .str s)) (hf : EX X K G f' (f a))
    (hM : ∀ j, M2 (X j) o "get" apos e f' pos := by intro _; exact ⟨rfl, rfl, rfl, rfl⟩) : EX X K G (.Call (.Attribute o "get" apos) [e, f'] [] pos) (f ((gets kvs k).getD a)) := fun F H σ fps Q E q =>
  ⟨tDGet2 (wpE X o) (wpE X e) (wpE X f'), fun j => pe_dget2 (Nat.lt_of_le_of_lt (by omega) (hu j)) (pe_wp j) (pe_wp j) (pe_wp j) (hM j), ho F H σ fps _ E fun F1 H1 p vs u r l rl _ => by
    refine ⟨p, rfl, .inl ⟨vs, r⟩, he F1 H1 σ fps _ (E.up u) fun F2 H2 y u2 r2 => hf F2 H2 σ fps _ ((E.up u).up u2) fun F3 H3 z u3 r3 => ?_⟩
    have ey := hk F2 y r2
    subst ey
    refine ⟨_, .inl ⟨vs, g k, u3.rd (u2.rd r), rfl, rfl⟩, ?_⟩
    have rl3 := (rl.mono u2.fr).mono u3.fr
    rcases repK_get hgi k rl3 with ⟨e1, e2⟩ | ⟨b, w, e1, e2, e3⟩
    · rw [e1] at q; rw [e2]; exact q F3 H3 z ((u.trans u2).trans u3) r3
    · rw [e1] at q; rw [e2]; exact q F3 H3 w ((u.trans u2).trans u3) e3⟩
/-- d.get(k) -/
theorem x_get1 {o e : Expr} {apos pos : Pos} (hu : ∀ j, (X j).A.units + 64 < cLine) (ho : ED X K G o (encK g f kvs)) (he : EX X K G e (match g k with | .inl i => .int i | .inr s => .str s))
    (hM : ∀ j, M1 (X j) o "get" apos e pos := by intro _; exact ⟨rfl, rfl, rfl, rfl⟩) : EX X K G (.Call (.Attribute o "get" apos) [e] [] pos) (encO f (gets kvs k)) := fun F H σ fps Q E q =>
  ⟨tDGet1 (wpE X o) (wpE X e), fun j => pe_dget1 (Nat.lt_of_le_of_lt (by omega) (hu j)) (pe_wp j) (pe_wp j) (hM j), ho F H σ fps _ E fun F1 H1 p vs u r l rl _ => by
    refine ⟨p, rfl, .inl ⟨vs, r⟩, he F1 H1 σ fps _ (E.up u) fun F2 H2 y u2 r2 => ?_⟩
    have ey := hk F2 y r2
    subst ey
    refine ⟨_, .inl ⟨vs, g k, u2.rd r, rfl, rfl⟩, ?_⟩
    rcases repK_get hgi k (rl.mono u2.fr) with ⟨e1, e2⟩ | ⟨b, w, e1, e2, e3⟩
    · rw [e1] at q; rw [e2]; exact q F2 H2 .non (u.trans u2) .non
    · rw [e1] at q; rw [e2]; exact q F2 H2 w (u.trans u2) e3⟩
/-- d[k] -/
theorem x_dsub [Inhabited A] {o e : Expr} {pos : Pos} (hu : ∀ j, (X j).A.units + 64 < cLine) (ho : ED X K G o (encK g f kvs)) (he : EX X K G e (match g k with | .inl i => .int i | .inr s => .str s)) (hh : hasK kvs k = true) (hs : NoSl e := by exact fun _ _ => rfl) : EX X K G (.Subscript o e pos) (f ((gets kvs k).getD default)) := fun F H σ fps Q E q =>
  ⟨tDGet (wpE X o) (wpE X e), fun j => pe_dget (Nat.lt_of_le_of_lt (by omega) (hu j)) (pe_wp j) (pe_wp j) hs, ho F H σ fps _ E fun F1 H1 p vs u r l rl _ => by
    refine he F1 H1 σ fps _ (E.up u) fun F2 H2 y u2 r2 => ?_
    have ey := hk F2 y r2
    subst ey
    rcases repK_get hgi k (rl.mono u2.fr) with ⟨e1, e2⟩ | ⟨b, w, e1, e2, e3⟩
    · unfold hasK at hh; rw [e1] at hh; cases hh
    · refine ⟨p, w, rfl, .inl ⟨vs, g k, u2.rd r, rfl, e2.symm⟩, ?_⟩
      rw [e1] at q
      exact q F2 H2 w (u.trans u2) e3⟩
theorem dget_has {F H : Hp} {p : Addr} {vs : List (Key × V)} (r : Rd H p (.dK vs)) (rl : RepK K F vs (encK g f kvs)) : ∃ ov, DGet H p (kV (g k)) ov ∧ ov.isSome = hasK kvs k := by
  refine ⟨_, .inl ⟨vs, g k, r, rfl, rfl⟩, ?_⟩
  unfold hasK
  rcases repK_get hgi k rl with ⟨e1, e2⟩ | ⟨b, w, e1, e2, e3⟩
  · rw [e1, e2]; rfl
  · rw [e1, e2]; rfl
/-- k in d, k not in d -/
theorem xx_ind {o e : Expr} {pos : Pos} (hu : ∀ j, (X j).A.units + 64 < cLine) (he : EX X K G e (match g k with | .inl i => .int i | .inr s => .str s)) (ho : ED X K G o (encK g f kvs)) (hm : behindInMarks .In o = false := by rfl) : EX X K G (.Compare e [.In] [o] pos) (.bl (hasK kvs k)) := fun F H σ fps Q E q =>
  ⟨tDIn (wpE X e) (wpE X o), fun j => pe_cmp (pc_din (Nat.lt_of_le_of_lt (by omega) (hu j)) (pe_wp j) (pe_wp j)) hm, he F H σ fps _ E fun F1 H1 y u1 r1 => ho F1 H1 σ fps _ (E.up u1) fun F2 H2 p vs u2 r l rl _ => by
    have ey := hk F1 y r1
    subst ey
    obtain ⟨ov, g1, g2⟩ := dget_has f hgi hk (k := k) r rl
    exact ⟨p, ov, rfl, g1, by rw [g2]; exact q F2 H2 _ (u1.trans u2) (.bl _)⟩⟩
theorem xx_nid {o e : Expr} {pos : Pos} (hu : ∀ j, (X j).A.units + 64 < cLine) (he : EX X K G e (match g k with | .inl i => .int i | .inr s => .str s)) (ho : ED X K G o (encK g f kvs)) (hm : behindInMarks .NotIn o = false := by rfl) : EX X K G (.Compare e [.NotIn] [o] pos) (.bl (!hasK kvs k)) := fun F H σ fps Q E q =>
  ⟨tDNotIn (wpE X e) (wpE X o), fun j => pe_cmp (pc_dnotin (Nat.lt_of_le_of_lt (by omega) (hu j)) (pe_wp j) (pe_wp j)) hm, he F H σ fps _ E fun F1 H1 y u1 r1 => ho F1 H1 σ fps _ (E.up u1) fun F2 H2 p vs u2 r l rl _ => by
    have ey := hk F1 y r1
    subst ey
    obtain ⟨ov, g1, g2⟩ := dget_has f hgi hk (k := k) r rl
    exact ⟨p, ov, rfl, g1, by rw [g2]; exact q F2 H2 _ (u1.trans u2) (.bl _)⟩⟩
theorem xb_ind {o e : Expr} {pos : Pos} (hu : ∀ j, (X j).A.units + 64 < cLine) (he : EX X K G e (match g k with | .inl i => .int i | .inr s => .str s)) (ho : ED X K G o (encK g f kvs)) (hm : behindInMarks .In o = false := by rfl) : EB X K G (.Compare e [.In] [o] pos) (hasK kvs k) := fun F H σ fps Q E q =>
  ⟨tTest (tDIn (wpE X e) (wpE X o)), fun j => pt_cmp (pc_din (Nat.lt_of_le_of_lt (by omega) (hu j)) (pe_wp j) (pe_wp j)) hm, he F H σ fps _ E fun F1 H1 y u1 r1 => ho F1 H1 σ fps _ (E.up u1) fun F2 H2 p vs u2 r l rl _ => by
    have ey := hk F1 y r1
    subst ey
    obtain ⟨ov, g1, g2⟩ := dget_has f hgi hk (k := k) r rl
    exact ⟨p, ov, rfl, g1, _, rfl, by rw [g2]; exact q F2 H2 (u1.trans u2)⟩⟩
theorem xb_nid {o e : Expr} {pos : Pos} (hu : ∀ j, (X j).A.units + 64 < cLine) (he : EX X K G e (match g k with | .inl i => .int i | .inr s => .str s)) (ho : ED X K G o (encK g f kvs)) (hm : behindInMarks .NotIn o = false := by rfl) : EB X K G (.Compare e [.NotIn] [o] pos) (!hasK kvs k) := fun F H σ fps Q E q =>
  ⟨tTest (tDNotIn (wpE X e) (wpE X o)), fun j => pt_cmp (pc_dnotin (Nat.lt_of_le_of_lt (by omega) (hu j)) (pe_wp j) (pe_wp j)) hm, he F H σ fps _ E fun F1 H1 y u1 r1 => ho F1 H1 σ fps _ (E.up u1) fun F2 H2 p vs u2 r l rl _ => by
    have ey := hk F1 y r1
    subst ey
    obtain ⟨ov, g1, g2⟩ := dget_has f hgi hk (k := k) r rl
    exact ⟨p, ov, rfl, g1, _, rfl, by rw [g2]; exact q F2 H2 (u1.trans u2)⟩⟩
end
theorem keyS (s : Str) : ∀ F v, Rep K F v (.str s) → v = kV (.inr s) := fun F v h => by cases h; rfl
theorem keyI (i : Int) : ∀ F v, Rep K F v (.int i) → v = kV (.inl i) := fun F v h => by cases h; rfl
theorem kOk_rep {K : PySem.W.Frag} {F : Hp} {v : V} {k : Key} (r : Rep K F v (match k with | .inl i => .int i | .inr s => .str s)) : kOk k = true := by
  cases k with
  | inl i => rfl
  | inr s => cases r; assumption
/-- two dicts told alike -/
theorem op_eqDR {X : Cx} (hu : X.A.units < cLine) : OpR X (compareOp .Eq) (fun x y H Q => ∃ a b kvs, x = .ref a ∧ y = .ref b ∧ Rd H a (.dK kvs) ∧ Rd H b (.dK kvs) ∧ (kvs.map (·.1)).Nodup ∧ (∀ p ∈ kvs, flatB p.2 = true) ∧ Q (.bl true) H) := by
  intro pins s σ H x y v u Q I rx ry h
  obtain ⟨a, b, kvs, rfl, rfl, ea, eb, nd, fl, q⟩ := h
  obtain rfl : v = Value.ref a := rx
  obtain rfl : u = Value.ref b := ry
  obtain ⟨_, ya, va, ra, da⟩ := dk_rd I.hok ea
  obtain ⟨_, yb, vb, rb, db⟩ := dk_rd I.hok eb
  have hl : va.length = vb.length := ra.length.symm.trans rb.length
  exact PySem.W.keq_eq (knd := mixKind X.prog X.w) (r := true) ya yb da db hu (fun _ => hits_all rb ra fun p hp => ⟨val_nodup nd p hp, fl p hp⟩) (fin_bl I q (by simp [hl]))
def dSame {κ A : Type} (xs ys : List (κ × A)) : Prop := xs = ys
theorem x_eqDD {κ A : Type} {g : κ → Key} {f : A → Dt} {a b : Expr} {pos : Pos} {xs ys : List (κ × A)} (hgi : ∀ a b, g a = g b → a = b) (d : FlatD f) (hu : ∀ j, (X j).A.units + 64 < cLine) (ha : ED X K G a (encK g f xs)) (hb : ED X K G b (encK g f ys)) (hs : dSame xs ys) (hm : behindInMarks .Eq b = false := by rfl) : EX X K G (.Compare a [.Eq] [b] pos) (.bl true) := fun F H σ fps Q E q =>
  ⟨tOp _ (wpE X a) (wpE X b), fun j => pe_cmpR (op_eqDR (Nat.lt_of_le_of_lt (by omega) (hu j))) (pe_wp j) (pe_wp j) hm, ha F H σ fps _ E fun F1 H1 p vs u r l rl n1 => hb F1 H1 σ fps _ (E.up u) fun F2 H2 p2 ws u2 r2 l2 rl2 n2 => by
    obtain rfl := hs
    obtain ⟨e, fl⟩ := repK_un d (rl.mono u2.fr) rl2
    subst e
    refine ⟨p, p2, vs, rfl, rfl, u2.rd r, r2, n2, fl, q F2 H2 _ (u.trans u2) (.bl true)⟩⟩
theorem b_eqDD {κ A : Type} {g : κ → Key} {f : A → Dt} {a b : Expr} {pos : Pos} {xs ys : List (κ × A)} (hgi : ∀ a b, g a = g b → a = b) (d : FlatD f) (hu : ∀ j, (X j).A.units + 64 < cLine) (ha : ED X K G a (encK g f xs)) (hb : ED X K G b (encK g f ys)) (hs : dSame xs ys) (hm : behindInMarks .Eq b = false := by rfl) : EB X K G (.Compare a [.Eq] [b] pos) true := fun F H σ fps Q E q =>
  ⟨tTest (tOp _ (wpE X a) (wpE X b)), fun j => pt_cmpR (op_eqDR (Nat.lt_of_le_of_lt (by omega) (hu j))) (pe_wp j) (pe_wp j) hm, ha F H σ fps _ E fun F1 H1 p vs u r l rl n1 => hb F1 H1 σ fps _ (E.up u) fun F2 H2 p2 ws u2 r2 l2 rl2 n2 => by
    obtain rfl := hs
    obtain ⟨e, fl⟩ := repK_un d (rl.mono u2.fr) rl2
    subst e
    refine ⟨p, p2, vs, rfl, rfl, u2.rd r, r2, n2, fl, ⟨true, rfl, q F2 H2 (u.trans u2)⟩⟩⟩
end
section
variable {X : Cx} {K : PySem.W.Frag} {W : WX} {sv : Sv} {G : Env} {rest : List Stmt} {o : Out} {pos : Pos}
theorem run_asgC {B : Type} {i : Nat} {x : Str} {e : Expr} {pos' : Pos} {v : B} (enc : B → Cell) (oF : B → Out) (P : B → Prop) (h : EN (one X) K G e (enc v)) (hp : P v) (hN : X.N.Nodup) (k : ∀ y, P y → Run X K W sv rest (G.set i (some (enc y))) (oF y))
    (hi : X.N[i]? = some x := by rfl) (hx : Loc X.env.scope x := by first | exact Or.inl rfl | exact Or.inr rfl) (hl : Nat.blt i G.length = true := by rfl) (hv : memN sv.ks i = false := by rfl)
    (hs : swapsWith e (some (.Name x pos')) pos.line X.env = pure false := by rfl) (hf : X.fn x = true ∨ X.env.scope.names.lookup x = some .local := by first | exact .inl rfl | exact .inr rfl | assumption) (ho : oF v = o := by rfl) :
    Run X K W sv (.Assign [.Name x pos'] e pos :: rest) G o := ho ▸ run_asgN h hN hi hx (Nat.blt_eq.mp hl) hv (k v hp) hs hf
/-- d[k] = e, d an own dict -/
theorem run_setD {κ A : Type} [DecidableEq κ] {g : κ → Key} {i : Nat} {π : List Nat} {t e ie : Expr} {sp : Pos} {kvs : List (κ × A)} {k : κ} {a : A} {G' : Env} (f : A → Dt) (hgi : ∀ a b, g a = g b → a = b) (hk : ∀ F v, Rep K F v (match g k with | .inl i => .int i | .inr s => .str s) → v = kV (g k)) (hu : X.A.units + 64 < cLine) (ht : EP (one X) K G t i π) (hg : atG G i π = some (.od (encK g f kvs))) (h : EX (one X) K G e (f a)) (hi : EX (one X) K G ie (match g k with | .inl i => .int i | .inr s => .str s)) (hn : kvs.length + 1 ≤ big)
    (hG : updG G i π (.od (encK g f (puts kvs k a))) = G') (kk : Run X K W sv rest G' o)
    (hs : swapsWith e (some (.Subscript t ie sp)) pos.line X.env = pure false := by rfl) :
    Run X K W sv (.Assign [.Subscript t ie sp] e pos :: rest) G o := fun F H σ fps D Eo s q => by
  subst hG
  refine ⟨tSeq (sDPut (wpE (one X) t) (wpE (one X) ie) (wpE (one X) e)) (wpSs X rest), pss_cons (ps_dput (Nat.lt_of_le_of_lt (by omega) hu) pe_w1 pe_w1 pe_w1 hs) pss_wp, h F H σ fps _ Eo fun F1 H1 w u r1 => ?_⟩
  refine ht F1 H1 σ fps _ (Eo.up u) fun F0 H0 v u0 l0 => ?_
  obtain ⟨fpc0, r0, _⟩ := ((Eo.up u).up u0).loc hg l0
  obtain ⟨p, vs, rfl, _, b2, l, r, nd⟩ := r0.od_inv
  refine hi F0 H0 σ fps _ ((Eo.up u).up u0) fun F2 H2 m u2 r2 => ?_
  obtain rfl := hk F2 m r2
  have E2 := ((Eo.up u).up u0).up u2
  have hlen := repK_len r
  have nd0 := nodup_un r nd
  have nw : RepK K F2 (putK vs (g k) w) (encK g f (puts kvs k a)) := repK_put hgi k (kOk_rep r2) (r1.mono (u0.trans u2).fr) nd0 (r.mono u2.fr)
  have hl2 : (putK vs (g k) w).length ≤ big := by
    have e1 := repK_len nw
    have := puts_len k a kvs
    omega
  have nd2 : ((putK vs (g k) w).map (·.1)).Nodup := by rw [repK_keys nw]; exact nodup_g hgi (puts_nodup nd0)
  obtain ⟨fps2, E3, l3⟩ := E2.set1 (fq := []) hg (l0.mono u2.hp) (fun fpc r a => by obtain ⟨p', _, e1, e2, _⟩ := r.od_inv; cases e1; rw [e2]; simp) (.dK (putK vs (g k) w)) (.od (encK g f (puts kvs k a))) (.od upd_same hl2 nw nd2)
  exact ⟨p, _, rfl, DPut.k (u2.hp _ _ b2) (Nat.lt_of_lt_of_le (by omega) big_line), kk F2 _ σ fps2 D E3 s (q.le (((u.trans u0).trans u2).le.trans l3))⟩
end
end Vs

/-! Objects of own classes: made, read, asked for their class, their methods. -/
namespace Vs
open PySem PySem.Spec L2
/-! ### what a class says -/
structure ClF (K : PySem.W.Frag) (C : Str) : Prop where
  cls : Cls K (He.ga K C)
  ca : PySem.W.findIn K (.ref (He.ga K C)) "__class__" = some (some (.builtin "object.__class__"))
  mr : PySem.W.mroIn K (He.ga K C) (.type "object") = some true
  cn : PySem.W.specialIn K (.builtin "object.__class__") "__get__" = some (some (.builtin "getset_descriptor.__get__"))
  ct : PySem.W.takesIn K (.builtin "object.__class__") = some true
def clB (K : PySem.W.Frag) (C : Str) : Bool := (He.Fa.cls C).ok K && (decide (PySem.W.findIn K (.ref (He.ga K C)) "__class__" = some (some (.builtin "object.__class__"))) && (decide (PySem.W.mroIn K (He.ga K C) (.type "object") = some true) &&
  (decide (PySem.W.specialIn K (.builtin "object.__class__") "__get__" = some (some (.builtin "getset_descriptor.__get__"))) && decide (PySem.W.takesIn K (.builtin "object.__class__") = some true))))
theorem clB_ok {K : PySem.W.Frag} {C : Str} (h : clB K C = true) : ClF K C := by
  obtain ⟨h1, h⟩ := Bool.and_eq_true_iff.mp h
  obtain ⟨h2, h⟩ := Bool.and_eq_true_iff.mp h
  obtain ⟨h3, h⟩ := Bool.and_eq_true_iff.mp h
  obtain ⟨h4, h5⟩ := Bool.and_eq_true_iff.mp h
  exact ⟨He.cls_ok h1, of_decide_eq_true h2, of_decide_eq_true h3, of_decide_eq_true h4, of_decide_eq_true h5⟩
/-- the class's own names are read plainly -/
structure ClRd (K : PySem.W.Frag) (C : Addr) (mc : Value) : Prop where
  rd : PySem.W.readsIn K C mc = true
  ga : PySem.W.specialIn K (.ref C) "__getattribute__" = some (some (.builtin "type.__getattribute__"))
/-- C.m, read of the class -/
structure SupF (K : PySem.W.Frag) (C m : Str) : Prop where
  rd : ClRd K (He.ga K C) (.type "type")
  at_ : PySem.W.findCls K (.ref (He.ga K C)) (.type "type") m = some (.val (.ref (He.ma K (He.ga K C) m)))
  kp : PySem.W.keepIn K (.ref (He.ma K (He.ga K C) m)) = true
def supB (K : PySem.W.Frag) (C m : Str) : Bool := PySem.W.readsIn K (He.ga K C) (.type "type") && (decide (PySem.W.specialIn K (.ref (He.ga K C)) "__getattribute__" = some (some (.builtin "type.__getattribute__"))) &&
  ((match PySem.W.findCls K (.ref (He.ga K C)) (.type "type") m with
    | some (.val v) => decide (v = .ref (He.ma K (He.ga K C) m))
    | _ => false) && PySem.W.keepIn K (.ref (He.ma K (He.ga K C) m))))
theorem supB_ok {K : PySem.W.Frag} {C m : Str} (h : supB K C m = true) : SupF K C m := by
  obtain ⟨h1, h⟩ := Bool.and_eq_true_iff.mp h
  obtain ⟨h2, h⟩ := Bool.and_eq_true_iff.mp h
  obtain ⟨h3, h4⟩ := Bool.and_eq_true_iff.mp h
  refine ⟨⟨h1, of_decide_eq_true h2⟩, ?_, h4⟩
  cases e : PySem.W.findCls K (.ref (He.ga K C)) (.type "type") m with
  | none => rw [e] at h3; cases h3
  | some z =>
    rw [e] at h3
    cases z with
    | val v => rw [of_decide_eq_true h3]
    | _ => cases h3
/-- is an object of the class C one of D? -/
def IsF (K : PySem.W.Frag) (C D : Str) (b : Bool) : Prop := PySem.W.kitOne K (.ref (He.ga K C)) (.ref (He.ga K D)) = some b
def isB (K : PySem.W.Frag) (C D : Str) (b : Bool) : Bool := decide (PySem.W.kitOne K (.ref (He.ga K C)) (.ref (He.ga K D)) = some b)
theorem isB_ok {K : PySem.W.Frag} {C D : Str} {b : Bool} (h : isB K C D b = true) : IsF K C D b := by
  unfold IsF
  exact of_decide_eq_true h

/-! ### fields -/
def putD (f : Str) (d : Dt) : List (Str × Dt) → List (Str × Dt)
  | [] => [(f, d)]
  | (g, x) :: r => if g = f then (g, d) :: r else (g, x) :: putD f d r
section
variable {K : PySem.W.Frag} {F : Hp}
theorem repF_put {f : Str} {v : V} {d : Dt} (h : Rep K F v d) : ∀ {vs : List (Str × V)} {fs : List (Str × Dt)}, RepF K F vs fs → RepF K F (putF f v vs) (putD f d fs)
  | _, _, .nil => .cons h .nil
  | _, _, .cons (k := g) q r => by
    unfold putF putD
    by_cases e : g = f
    · rw [if_pos e, if_pos e]; exact .cons h r
    · rw [if_neg e, if_neg e]; exact .cons q (repF_put h r)
theorem repF_get {f : Str} {d : Dt} : ∀ {vs : List (Str × V)} {fs : List (Str × Dt)}, RepF K F vs fs → fs.lookup f = some d → ∃ v, vs.lookup f = some v ∧ Rep K F v d
  | _, _, .nil, h => by cases h
  | _, _, .cons (k := g) q r, h => by
    rw [List.lookup_cons] at h ⊢
    by_cases e : (f == g) = true
    · rw [e] at h ⊢
      cases h
      exact ⟨_, rfl, q⟩
    · have e' : (f == g) = false := by simpa using e
      rw [e'] at h ⊢
      exact repF_get r h
theorem repF_no {f : Str} : ∀ {vs : List (Str × V)} {fs : List (Str × Dt)}, RepF K F vs fs → fs.lookup f = none → vs.lookup f = none
  | _, _, .nil, h => rfl
  | _, _, .cons (k := g) q r, h => by
    rw [List.lookup_cons] at h ⊢
    by_cases e : (f == g) = true
    · rw [e] at h; cases h
    · have e' : (f == g) = false := by simpa using e
      rw [e'] at h ⊢
      exact repF_no r h
theorem repF_len : ∀ {vs : List (Str × V)} {fs : List (Str × Dt)}, RepF K F vs fs → vs.length = fs.length
  | _, _, .nil => rfl
  | _, _, .cons _ r => by rw [List.length_cons, List.length_cons, repF_len r]
end
section
variable {I : Type} {X : I → Cx} {K : PySem.W.Frag} {G : Env} {P : Program} {w : World} {mg : Str → Option Value} {base : Heap}
theorem ex_fld {o : Expr} {f C : Str} {fs : List (Str × Dt)} {d : Dt} {pos : Pos} (hK : ∀ j, (X j).K = K) (T : ClF K C) (n : NoAttr K (He.ga K C) f) (ho : EX X K G o (.ins C fs)) (hl : fs.lookup f = some d := by rfl)
    (hb : ∀ j, attributeBase o f (X j).env (eval o (X j).env) = eval o (X j).env := by intro _; rfl) : EX X K G (.Attribute o f pos) d := fun F H σ fps Q k q =>
  ⟨tFld K (wpE X o) f, fun j => hK j ▸ pe_fld (pe_wp j) (hb j), ho F H σ fps _ k fun F1 H1 v u r => by
    cases r with
    | ins h1 r =>
      obtain ⟨w, e, rw_⟩ := repF_get r hl
      exact ⟨_, _, _, _, w, rfl, u.sb.ins h1, T.cls, n, e, q F1 H1 w u rw_⟩⟩
theorem ex_isOwn {o : Expr} {C D : Str} {fs : List (Str × Dt)} {b : Bool} {p p2 pos : Pos} (hK : ∀ j, (X j).K = K) (T : ClF K C) (hi : IsF K C D b) (ho : EX X K G o (.ins C fs)) (hg : ∀ j, Gl (X j) "isinstance") (hm : ∀ j, (X j).mg "isinstance" = none)
    (hgD : ∀ j, Gl (X j) D) (hmD : ∀ j, (X j).mg D = some (.ref (He.ga K D))) (hTd : (D == ("__debug__" : Str)) = false := by decide)
    (he : ∀ j, starEach [o, .Name D p2] (X j).env = (false, eval o (X j).env) :: starEach [.Name D p2] (X j).env := by intro _; rfl) (he2 : ∀ j, starEach [.Name D p2] (X j).env = [(false, eval (.Name D p2) (X j).env)] := by intro _; rfl)
    (hpl : ∀ j, (backTo pos (starEach [.Name D p2] (X j).env)).any (·.1) = false := by intro _; rfl) : EX X K G (.Call (.Name "isinstance" p) [o, .Name D p2] [] pos) (.bl b) := fun F H σ fps Q k q =>
  ⟨tCB (rIsi K) (tCons (wpE X o) (tCons (tC (.ref (He.ga K D))) tNil)), fun j => by
      have c : CallR (X j) (.builtin "isinstance") (rIsi K) := hK j ▸ call_isi
      exact pe_callB c (hg j) (hm j) (by decide +kernel) (pa_cons (pe_wp j) (pa_cons (pe_glob (hgD j) (hmD j) rfl hTd) pa_nil (he2 j)) (he j)) (by decide) (by decide) (he j) (hpl j),
    ho F H σ fps _ k fun F1 H1 v u r => by
      cases r with
      | ins h1 r => exact ⟨_, .ref (He.ga K D), _, _, b, rfl, .own _, .base (.ins (u.sb.ins h1) T.cls T.ca T.cn T.ct T.mr), hi, q F1 H1 _ u (.bl b)⟩⟩
/-! ### methods -/
structure CalleeM (P : Program) (w : World) (K : PySem.W.Frag) (mg : Str → Option Value) (base : Heap) (C m : Str) (k n : Nat) (r : List Dt → Sum Cell Xc → Prop) : Prop where
  ex : ∃ f fd ps, FnOk P w K mg base (L2.CX P w) k f fd ps (spR K n r) ∧ Meth K (He.ga K C) m f ∧ Binds K fd ps []
theorem en_meth0 {o : Expr} {m C : Str} {k n : Nat} {r : List Dt → Sum Cell Xc → Prop} {apos pos : Pos} {fs : List (Str × Dt)} {c : Cell} {pl : I → Sem Bool} (M : CalleeM P w K mg base C m k n r) (T : ClF K C) (hX : Of X P w K mg base) (hr : ∀ j, Room k (X j).A)
    (ho : EX X K G o (.ins C fs)) (hn : 1 = n) (hR : r [.ins C fs] (.inl c)) (hl : fs.lookup m = none := by rfl)
    (ht : ∀ j, eval (.Call (.Attribute o m apos) [] [] pos) (X j).env = (do
      let ov ← eval o (X j).env
      standAt apos.atName
      let (f, first) ← holding [ov] (getMethod ov m (pl j))
      callWith pos f first (backTo pos (starEach [] (X j).env)) (backToKw pos (keywordEach [] (X j).env))) := by intro _; rfl) : EN X K G (.Call (.Attribute o m apos) [] [] pos) c := fun F H σ fps Q Eo q => by
  obtain ⟨f, fd, ps, h1, h2, h3⟩ := M.ex
  refine ⟨tMeth (He.ga K C) m (spR K n r) [] E0 (wpE X o) tNil, fun j => ?_, ho F H σ fps _ Eo fun F1 H1 v u rv => ?_⟩
  · obtain ⟨e1, e2, e3, e4, e5⟩ := hX j
    subst e1 e2 e3 e4 e5
    exact pe_meth0 (pe_wp j) T.cls h2 h1 (hr j) h3 .nil passL (ht j)
  · have rv' := rv
    cases rv with
    | ins h4 r4 =>
      refine ⟨_, _, _, rfl, u.sb.ins h4, repF_no r4 hl, F1, [.ins C fs], .inl c, u.sb, .cons rv' .nil, hn, hR, fun F' H' v fp u' r' n' => q F' H' v fp (u.trans u') r' fun a ha => ⟨u.hp.free (n' a ha).1, (n' a ha).2.1, (n' a ha).2.2⟩⟩
theorem en_meth {o : Expr} {m C : Str} {k n : Nat} {r : List Dt → Sum Cell Xc → Prop} {apos pos : Pos} {e : Expr} {es : List Expr} {ds : List Dt} {fs : List (Str × Dt)} {c : Cell} {pl : I → Sem Bool} (M : CalleeM P w K mg base C m k n r) (T : ClF K C) (hX : Of X P w K mg base) (hr : ∀ j, Room k (X j).A)
    (ho : EX X K G o (.ins C fs)) (ha : EA X K G (e :: es) ds) (hn : ds.length + 1 = n) (hR : r (.ins C fs :: ds) (.inl c)) (hl : fs.lookup m = none := by rfl)
    (hst : ∀ j, starEach (e :: es) (X j).env = (false, eval e (X j).env) :: starEach es (X j).env := by intro _; rfl) (hpl : ∀ j, (backTo pos (starEach es (X j).env)).any (·.1) = false := by intro _; rfl)
    (ht : ∀ j, eval (.Call (.Attribute o m apos) (e :: es) [] pos) (X j).env = (do
      let ov ← eval o (X j).env
      standAt apos.atName
      let (f, first) ← holding [ov] (getMethod ov m (pl j))
      callWith pos f first (backTo pos (starEach (e :: es) (X j).env)) (backToKw pos (keywordEach [] (X j).env))) := by intro _; rfl) : EN X K G (.Call (.Attribute o m apos) (e :: es) [] pos) c := fun F H σ fps Q Eo q => by
  obtain ⟨f, fd, ps, h1, h2, h3⟩ := M.ex
  refine ⟨tMeth (He.ga K C) m (spR K n r) [] E0 (wpE X o) (wpA X (e :: es)), fun j => ?_, ho F H σ fps _ Eo fun F1 H1 v u rv => ?_⟩
  · obtain ⟨e1, e2, e3, e4, e5⟩ := hX j
    subst e1 e2 e3 e4 e5
    exact pe_meth (pe_wp j) T.cls h2 h1 (hr j) h3 .nil passL (pa_wp j) (hst j) (hpl j) (ht j)
  · have rv' := rv
    cases rv with
    | ins h4 r4 =>
      refine ⟨_, _, _, rfl, u.sb.ins h4, repF_no r4 hl, ha F1 H1 σ fps _ (Eo.up u) fun F2 H2 vs u2 rl => ?_⟩
      rw [List.append_nil]
      exact ⟨F2, .ins C fs :: ds, .inl c, u2.sb, .cons (rv'.mono u2.fr) rl, hn, hR, fun F' H' v fp u' r' n' => q F' H' v fp ((u.trans u2).trans u') r' fun a ha => ⟨(u.trans u2).hp.free (n' a ha).1, (n' a ha).2.1, (n' a ha).2.2⟩⟩
end
end Vs

/-! Tuples put together, texts in order, what a head asks of classes. -/
namespace Vs
open PySem PySem.Spec L2
section
variable {I : Type} {X : I → Cx} {K : PySem.W.Frag} {G : Env}
theorem ex_catT {a b : Expr} {pos : Pos} {ds es : List Dt} (hK : ∀ j, (X j).K = K) (h0 : ds ≠ []) (ha : EX X K G a (.tup ds)) (hb : EX X K G b (.tup es)) (hn : ds.length + es.length ≤ big) : EX X K G (.BinOp a .Add b pos) (.tup (ds ++ es)) := fun F H σ fps Q k q =>
  ⟨tOp (rCatT K) (wpE X a) (wpE X b), fun j => hK j ▸ pe_op op_catT (pe_wp j) (pe_wp j), ha F H σ fps _ k fun F1 H1 v u r => hb F1 H1 σ fps _ (k.up u) fun F2 H2 w u2 r2 => by
    cases r with
    | tup h1 l1 r1 => cases r2 with
      | tup h2 l2 r2 =>
        rename_i a vs b ws
        have hl : vs.length + ws.length ≤ big := by rw [r1.len, r2.len]; exact hn
        have hv : vs ≠ [] := fun z => h0 (List.eq_nil_of_length_eq_zero (by rw [← r1.len, z]; rfl))
        refine ⟨a, b, vs, ws, rfl, rfl, SqT.of (u2.hp _ _ (u.sb.tup h1)), SqT.of (u2.sb.tup h2), hv, Nat.le_trans hl big_line, fun z => ?_, fun z D hD => ?_⟩
        · subst z
          cases r2
          rw [List.append_nil] at q
          exact q F2 H2 _ (u.trans u2) (.tup (u2.fr _ _ h1) l1 (r1.mono u2.fr))
        · refine q (upd F2 D (.tup (vs ++ ws))) (upd H2 D (.tup (vs ++ ws))) _ ((u.trans u2).trans (Up.lay u2.sb hD)) (.tup upd_same (by rw [List.length_append]; exact hl) (((r1.mono u2.fr).append r2).mono (Ex.new (u2.sb.none hD))))⟩
theorem x_catT {A : Type} {a b : Expr} {pos : Pos} {xs ys : List A} (f : A → Dt) (hK : ∀ j, (X j).K = K) (h0 : xs ≠ []) (ha : EX X K G a (.tup (xs.map f))) (hb : EX X K G b (.tup (ys.map f))) (hn : xs.length + ys.length ≤ big) : EX X K G (.BinOp a .Add b pos) (.tup ((xs ++ ys).map f)) :=
  (ex_catT hK (fun z => h0 (List.map_eq_nil_iff.mp z)) ha hb (by rw [List.length_map, List.length_map]; exact hn)).is (by rw [List.map_append])
theorem ex_tupT {e : Expr} {p pos : Pos} {ds : List Dt} (hK : ∀ j, (X j).K = K) (h : EX X K G e (.tup ds)) (hg : ∀ j, Gl (X j) "tuple") (hm : ∀ j, (X j).mg "tuple" = none)
    (he : ∀ j, starEach [e] (X j).env = [(false, eval e (X j).env)] := by intro _; rfl) : EX X K G (.Call (.Name "tuple" p) [e] [] pos) (.tup ds) := fun F H σ fps Q k q =>
  ⟨tCB (fun xs H Q => ∃ p ys, xs = [V.ref p] ∧ ((SqL K H p ys ∧ ∀ l, H l = none → Q (.ref l) (upd H l (.tup ys))) ∨ (SqT K H p ys ∧ Q (.ref p) H))) (tCons (wpE X e) tNil), fun j => hK j ▸ pe_callTy call_tuple_of (hg j) (hm j) (by decide +kernel) (pa_cons (pe_wp j) pa_nil (he j)) (by decide) (by decide) (he j) rfl, h F H σ fps _ k fun F1 H1 v u r => by
    have r' := r
    cases r with
    | tup h1 l1 r1 => exact ⟨_, _, rfl, .inr ⟨SqT.of (u.sb.tup h1), q F1 H1 _ u r'⟩⟩⟩
def ltS (i j : Str) : Bool := decide (i.cps.toList < j.cps.toList)
theorem says_ltS {i j : Str} : Says X K .Lt (.str i) (.str j) (ltS i j) := ⟨_, fun _ => op_lt_str, fun F H v w Q u r1 r2 q => by
  cases r1; cases r2
  exact ⟨i, j, rfl, rfl, q⟩⟩
end
theorem CalleeM.up {P : Program} {w : World} {K : PySem.W.Frag} {mg : Str → Option Value} {base : Heap} {C m : Str} {k k' n : Nat} {r : List Dt → Sum Cell Xc → Prop} (c : CalleeM P w K mg base C m k n r) (h : k ≤ k') : CalleeM P w K mg base C m k' n r := by
  obtain ⟨f, fd, ps, h1, h2, h3⟩ := c.ex
  exact ⟨f, fd, ps, h1.mono h, h2, h3⟩
/-! ### what a head asks beside the kit's facts -/
inductive Ya where
  | cl (C : Str)
  | sup (C m : Str)
  | isA (C D : Str) (b : Bool)
  | same (C D m : Str)
  | ali (x y : Str)
def Ya.ok (K : PySem.W.Frag) : Ya → Bool
  | .cl C => clB K C
  | .sup C m => supB K C m
  | .isA C D b => isB K C D b
  | .same C D m => decide (He.ma K (He.ga K C) m = He.ma K (He.ga K D) m)
  | .ali x y => decide (He.ga K x = He.ga K y)
theorem same_ok {K : PySem.W.Frag} {C D m : Str} (h : (Ya.same C D m).ok K = true) : He.ma K (He.ga K C) m = He.ma K (He.ga K D) m := of_decide_eq_true h
theorem ali_ok {K : PySem.W.Frag} {x y : Str} (h : (Ya.ali x y).ok K = true) : He.ga K x = He.ga K y := of_decide_eq_true h
theorem meth_as {K : PySem.W.Frag} {C D m : Str} (h : (Ya.same C D m).ok K = true) (M : Meth K (He.ga K C) m (He.ma K (He.ga K C) m)) : Meth K (He.ga K C) m (He.ma K (He.ga K D) m) := same_ok h ▸ M
def obsY (n : Nat) (fa : List He.Fa) (fn : List He.DefD) (ya : List Ya) (g : Addr → Option Obj) : He.AlD := ((He.obsD fa fn (He.frG g (He.asD g n ++ [cStatics]))).1 && ya.all fun y => y.ok (He.frG g (He.asD g n ++ [cStatics])), (He.obsD fa fn (He.frG g (He.asD g n ++ [cStatics]))).2)
def SaysY (fa : List He.Fa) (fn : List He.DefD) (ya : List Ya) (K : PySem.W.Frag) : Prop := He.SaysD fa fn K ∧ (ya.all fun y => y.ok K) = true
theorem saysY_of {fa : List He.Fa} {fn : List He.DefD} {ya : List Ya} {K : PySem.W.Frag} (h : (((He.obsD fa fn K).1 && ya.all fun y => y.ok K, (He.obsD fa fn K).2) : He.AlD) = He.valD fn) : SaysY fa fn ya K := by
  have h1 : ((He.obsD fa fn K).1 && ya.all fun y => y.ok K) = true := (Prod.ext_iff.mp h).1
  have h2 : (He.obsD fa fn K).2 = (He.valD fn).2 := (Prod.ext_iff.mp h).2
  obtain ⟨a, b⟩ := Bool.and_eq_true_iff.mp h1
  exact ⟨Prod.ext a h2, b⟩
def hookY (n : Nat) (fa : List He.Fa) (fn : List He.DefD) (ya : List Ya) : PySem.W.Hook where
  α := He.AlD
  obs := fun s => obsY n fa fn ya s.heap.get?
  val := fun _ => He.valD fn
  says := fun _ h => ∃ K : PySem.W.Frag, K.In h ∧ SaysY fa fn ya K
  of := fun _ _ e => ⟨_, He.frG_in, saysY_of e⟩
  keeps := fun _ _ _ ⟨K, hK, c⟩ k => ⟨K, PySem.W.Frag.In.keeps hK k, c⟩
theorem obsY_eq {n : Nat} {fa : List He.Fa} {fn : List He.DefD} {ya : List Ya} {g : Addr → Option Obj} {s : Shared} (h : ∀ a, g a = s.heap.get? a) : obsY n fa fn ya g = (hookY n fa fn ya).obs s := by
  have e : g = s.heap.get? := funext h
  rw [e] <;> rfl
theorem SaysY.ya {fa : List He.Fa} {fn : List He.DefD} {ya : List Ya} {K : PySem.W.Frag} (c : SaysY fa fn ya K) (i : Nat) {y : Ya} (h : ya[i]? = some y := by rfl) : y.ok K = true := List.all_eq_true.mp c.2 y (List.mem_of_getElem? h)
end Vs

/-! What is owned, handed to one expression that keeps nothing of it. -/
namespace Vs
open PySem PySem.Spec L2
/-- a list or a dict -/
def isCo : HO → Bool
  | .lst _ => true
  | .dK _ => true
  | .dT _ => true
  | _ => false
mutual
def noL : Dt → Bool
  | .non => true
  | .bl _ => true
  | .int _ => true
  | .str _ => true
  | .tup xs => noLs xs
  | .ins _ fs => noLf fs
  | _ => false
def noLs : List Dt → Bool
  | [] => true
  | d :: ds => noL d && noLs ds
def noLf : List (Str × Dt) → Bool
  | [] => true
  | (_, d) :: ds => noL d && noLf ds
end
def noLk : List (Key × Dt) → Bool
  | [] => true
  | (_, d) :: ds => noL d && noLk ds
section
variable {K : PySem.W.Frag} {F F' : Hp} (e : ∀ a o, F a = some o → isCo o = false → F' a = some o)
include e
mutual
theorem Rep.noC : ∀ {v : V} {d : Dt}, Rep K F v d → noL d = true → Rep K F' v d
  | _, _, .non, _ => .non
  | _, _, .bl b, _ => .bl b
  | _, _, .int i, _ => .int i
  | _, _, .str s h, _ => .str s h
  | _, _, .tup h l r, n => .tup (e _ _ h rfl) l (RepL.noC r (by unfold noL at n; exact n))
  | _, _, .ins h r, n => .ins (e _ _ h rfl) (RepF.noC r (by unfold noL at n; exact n))
  | _, _, .lst _ _ _, n => by unfold noL at n; cases n
  | _, _, .dic _ _ _ _, n => by unfold noL at n; cases n
  | _, _, .dit _ _ _ _, n => by unfold noL at n; cases n
  | _, _, .scr _ _ _, n => by unfold noL at n; cases n
theorem RepL.noC : ∀ {v : List V} {d : List Dt}, RepL K F v d → noLs d = true → RepL K F' v d
  | _, _, .nil, _ => .nil
  | _, _, .cons h r, n => by
    unfold noLs at n
    obtain ⟨n1, n2⟩ := Bool.and_eq_true_iff.mp n
    exact .cons (Rep.noC h n1) (RepL.noC r n2)
theorem RepF.noC : ∀ {v : List (Str × V)} {d : List (Str × Dt)}, RepF K F v d → noLf d = true → RepF K F' v d
  | _, _, .nil, _ => .nil
  | _, _, .cons h r, n => by
    unfold noLf at n
    obtain ⟨n1, n2⟩ := Bool.and_eq_true_iff.mp n
    exact .cons (Rep.noC h n1) (RepF.noC r n2)
end
theorem RepK.noC : ∀ {v : List (Key × V)} {d : List (Key × Dt)}, RepK K F v d → noLk d = true → RepK K F' v d
  | _, _, .nil, _ => .nil
  | _, _, .cons o h r, n => by
    unfold noLk at n
    obtain ⟨n1, n2⟩ := Bool.and_eq_true_iff.mp n
    exact .cons o (Rep.noC e h n1) (RepK.noC r n2)
end
theorem noLs_map {A : Type} {f : A → Dt} (h : ∀ x, noL (f x) = true) : ∀ xs : List A, noLs (xs.map f) = true
  | [] => rfl
  | x :: xs => by
    show (noL (f x) && noLs (xs.map f)) = true
    rw [h x, noLs_map h xs]; rfl
theorem noLk_enc {κ A : Type} {g : κ → Key} {f : A → Dt} (h : ∀ x, noL (f x) = true) : ∀ xs : List (κ × A), noLk (encK g f xs) = true
  | [] => rfl
  | x :: xs => by
    show (noL (f x.2) && noLk (encK g f xs)) = true
    rw [h x.2, noLk_enc h xs]; rfl
theorem nol_non (x : Unit) : noL .non = true := rfl
theorem nol_int (x : Int) : noL (.int x) = true := rfl
theorem nol_str (x : Str) : noL (.str x) = true := rfl
theorem nol_bl (x : Bool) : noL (.bl x) = true := rfl
theorem nol_vtup {A : Type} {f : A → Dt} (h : ∀ x, noL (f x) = true) (xs : List A) : noL (.tup (xs.map f)) = true := noLs_map h xs
theorem nol_opt {A : Type} {f : A → Dt} (h : ∀ x, noL (f x) = true) (o : Option A) : noL (encO f o) = true := by cases o with | none => rfl | some x => exact h x
theorem nol_tup1 {d : Dt} (h : noL d = true) : noL (.tup [d]) = true := by show (noL d && true) = true; rw [h]; rfl
theorem nol_tup2 {d e : Dt} (h : noL d = true) (h2 : noL e = true) : noL (.tup [d, e]) = true := by show (noL d && (noL e && true)) = true; rw [h, h2]; rfl
theorem nol_tup3 {d e f : Dt} (h : noL d = true) (h2 : noL e = true) (h3 : noL f = true) : noL (.tup [d, e, f]) = true := by show (noL d && (noL e && (noL f && true))) = true; rw [h, h2, h3]; rfl
theorem nol_tup4 {d e f g : Dt} (h : noL d = true) (h2 : noL e = true) (h3 : noL f = true) (h4 : noL g = true) : noL (.tup [d, e, f, g]) = true := by show (noL d && (noL e && (noL f && (noL g && true)))) = true; rw [h, h2, h3, h4]; rfl
/-- a list or a dict of its own -/
def flatC : Cell → Bool
  | .ol _ => true
  | .od _ => true
  | .odt _ => true
  | _ => false
section
variable {K : PySem.W.Frag} {F H : Hp} {σ : L2.St} {G : Env} {fps : Nat → List Addr} {i : Nat} {π : List Nat} {c : Cell} {d0 : Dt}
theorem flat_fp {fp : List Addr} {v : V} (r : RepC K F H fp v c) (h : flatC c = true) : ∀ a ∈ fp, ∃ o, H a = some o ∧ isCo o = true := by
  cases r with
  | fz _ => cases h
  | oc _ _ _ _ _ => cases h
  | ob _ _ _ => cases h
  | hl => cases h
  | fl _ _ _ => cases h
  | ol h1 _ _ => intro a ha; obtain rfl : a = _ := by simpa using ha
                 exact ⟨_, h1, rfl⟩
  | od h1 _ _ _ => intro a ha; obtain rfl : a = _ := by simpa using ha
                   exact ⟨_, h1, rfl⟩
  | odt h1 _ _ _ => intro a ha; obtain rfl : a = _ := by simpa using ha
                    exact ⟨_, h1, rfl⟩
open Classical in
/-- what is seen as frozen meanwhile -/
theorem EnvOk.thaw (E : EnvOk K F H σ G fps) (h : atG G i π = some c) (hd : c.data = some d0) (hc : flatC c = true) :
    ∃ F0 fps0, EnvOk K F0 H σ (updG G i π (.fz d0)) fps0 ∧ ∀ F2 H2, Up F0 H F2 H2 → ∃ F3, Up F H F3 H2 ∧ (∀ a o, F2 a = some o → isCo o = false → F3 a = some o) ∧ (∀ a, F2 a = none → F3 a = none) := by
  obtain ⟨F0, fps0, fpc, E0, ex, out, ow, n, v, r⟩ := E.freeze h hd
  have fl := flat_fp r hc
  refine ⟨F0, fps0, E0, fun F2 H2 u => ⟨fun a => if a ∈ fpc then none else F2 a, ⟨fun a o z => ?_, u.hp, fun a z z' => ?_, fun a o z => ?_⟩, fun a o z z' => ?_, fun a z => ?_⟩⟩
  · have hn : a ∉ fpc := fun y => by rw [(n a y).1] at z; cases z
    show (if a ∈ fpc then none else F2 a) = some o
    rw [if_neg hn]
    exact u.fr a o (ex a o z)
  · show (if a ∈ fpc then none else F2 a) = none
    by_cases hn : a ∈ fpc
    · rw [if_pos hn]
    · rw [if_neg hn]
      exact u.nw a (by rw [out a hn]; exact z) z'
  · have z : (if a ∈ fpc then none else F2 a) = some o := z
    by_cases hn : a ∈ fpc
    · rw [if_pos hn] at z; cases z
    · rw [if_neg hn] at z
      exact u.sb a o z
  · show (if a ∈ fpc then none else F2 a) = some o
    by_cases hn : a ∈ fpc
    · obtain ⟨o', h1, h2⟩ := fl a hn
      have := u.fr a o' (by rw [(n a hn).2]; exact h1)
      rw [z] at this
      cases this
      rw [z'] at h2; cases h2
    · rw [if_neg hn]; exact z
  · show (if a ∈ fpc then none else F2 a) = none
    by_cases hn : a ∈ fpc
    · rw [if_pos hn]
    · rw [if_neg hn]; exact z
end
section
variable {I : Type} {X : I → Cx} {K : PySem.W.Frag} {G G' : Env}
theorem thaw (i : Nat) (π : List Nat) {c : Cell} {d0 d : Dt} {e : Expr} (hg : atG G i π = some c) (hd : c.data = some d0) (hc : flatC c = true) (hG : updG G i π (.fz d0) = G') (h : EX X K G' e d) (n : noL d = true) : EX X K G e d := fun F H σ fps Q E q => by
  subst hG
  obtain ⟨F0, fps0, E0, go⟩ := E.thaw hg hd hc
  refine h F0 H σ fps0 Q E0 fun F' H' v u r => ?_
  obtain ⟨F3, u3, k, _⟩ := go F' H' u
  exact q F3 H' v u3 (r.noC k n)
theorem thawB (i : Nat) (π : List Nat) {c : Cell} {d0 : Dt} {b : Bool} {e : Expr} (hg : atG G i π = some c) (hd : c.data = some d0) (hc : flatC c = true) (hG : updG G i π (.fz d0) = G') (h : EB X K G' e b) : EB X K G e b := fun F H σ fps Q E q => by
  subst hG
  obtain ⟨F0, fps0, E0, go⟩ := E.thaw hg hd hc
  refine h F0 H σ fps0 Q E0 fun F' H' u => ?_
  obtain ⟨F3, u3, _, _⟩ := go F' H' u
  exact q F3 H' u3
theorem thawL (i : Nat) (π : List Nat) {c : Cell} {d0 : Dt} {ds : List Dt} {e : Expr} (hg : atG G i π = some c) (hd : c.data = some d0) (hc : flatC c = true) (hG : updG G i π (.fz d0) = G') (h : EN X K G' e (.ol ds)) (n : noLs ds = true) : EN X K G e (.ol ds) := fun F H σ fps Q E q => by
  subst hG
  obtain ⟨F0, fps0, E0, go⟩ := E.thaw hg hd hc
  refine h F0 H σ fps0 Q E0 fun F' H' v fp u r nw => ?_
  obtain ⟨F3, u3, k, k'⟩ := go F' H' u
  cases r with
  | ol h1 l r => exact q F3 H' _ _ u3 (.ol h1 l (r.noC k n)) fun a ha => ⟨(nw a ha).1, k' a (nw a ha).2.1, (nw a ha).2.2⟩
theorem thawD (i : Nat) (π : List Nat) {c : Cell} {d0 : Dt} {ds : List (Key × Dt)} {e : Expr} (hg : atG G i π = some c) (hd : c.data = some d0) (hc : flatC c = true) (hG : updG G i π (.fz d0) = G') (h : EN X K G' e (.od ds)) (n : noLk ds = true) : EN X K G e (.od ds) := fun F H σ fps Q E q => by
  subst hG
  obtain ⟨F0, fps0, E0, go⟩ := E.thaw hg hd hc
  refine h F0 H σ fps0 Q E0 fun F' H' v fp u r nw => ?_
  obtain ⟨F3, u3, k, k'⟩ := go F' H' u
  cases r with
  | od h1 l r nd => exact q F3 H' _ _ u3 (.od h1 l (r.noC k n) nd) fun a ha => ⟨(nw a ha).1, k' a (nw a ha).2.1, (nw a ha).2.2⟩
end
end Vs

/-! Calls that are handed own things, own objects. -/
namespace Vs
open PySem PySem.Spec L2

/-! ### fields of own objects -/
section
variable {I : Type} {X : I → Cx} {K : PySem.W.Frag} {G : Env}
theorem ep_fld {o : Expr} {f C : Str} {i : Nat} {π : List Nat} {fs : List (Str × Cell)} (j : Nat) {pos : Pos} (hK : ∀ j, (X j).K = K) (T : ClF K C) (n : NoAttr K (He.ga K C) f) (ho : EP X K G o i π) (hg : atG G i π = some (.ob C fs)) (hl : ixF f fs = some j := by rfl)
    (hb : ∀ j, attributeBase o f (X j).env (eval o (X j).env) = eval o (X j).env := by intro _; rfl) : EP X K G (.Attribute o f pos) i (π ++ [j]) := fun F H σ fps Q k q =>
  ⟨tFld K (wpE X o) f, fun m => hK m ▸ pe_fld (pe_wp m) (hb m), ho F H σ fps _ k fun F1 H1 v u l => by
    obtain ⟨fpc, r, _⟩ := (k.up u).loc hg l
    obtain ⟨p, dx, fq, vs, rfl, _, h1, r, _⟩ := r.ob_inv
    obtain ⟨w, e1, e2⟩ := repCF_ix r hl
    exact ⟨_, _, _, _, w, rfl, h1, T.cls, n, e2, q F1 H1 w u ⟨l.choose, l.choose_spec.1, LocV.snocF h1 e1 l.choose_spec.2⟩⟩⟩
end

/-! ### own things handed over -/
inductive RepCL (K : PySem.W.Frag) (F H : Hp) : List Addr → List V → List Cell → Prop
  | nil : RepCL K F H [] [] []
  | cons {v : V} {c : Cell} {fp fq : List Addr} {vs : List V} {cs : List Cell} : RepC K F H fp v c → RepCL K F H fq vs cs → (∀ a ∈ fp, a ∉ fq) → RepCL K F H (fp ++ fq) (v :: vs) (c :: cs)
theorem RepCL.len {K : PySem.W.Frag} {F H : Hp} : ∀ {fp : List Addr} {vs : List V} {cs : List Cell}, RepCL K F H fp vs cs → vs.length = cs.length
  | _, _, _, .nil => rfl
  | _, _, _, .cons _ rs _ => congrArg (· + 1) rs.len
theorem RepCL.mono {K : PySem.W.Frag} {F H F' H' : Hp} (e : Ex F F') : ∀ {fp : List Addr} {v : List V} {c : List Cell}, (∀ a ∈ fp, ∀ o, H a = some o → H' a = some o) → RepCL K F H fp v c → RepCL K F' H' fp v c
  | _, _, _, _, .nil => .nil
  | _, _, _, k, .cons r rs d => .cons (r.mono e fun a ha => k a (List.mem_append_left _ ha)) (rs.mono e fun a ha => k a (List.mem_append_right _ ha)) d
theorem RepCL.ofL {K : PySem.W.Frag} {F H : Hp} : ∀ {vs : List V} {ds : List Dt}, RepL K F vs ds → RepCL K F H [] vs (ds.map .fz)
  | _, _, .nil => .nil
  | _, _, .cons r rs => .cons (.fz r) (RepCL.ofL rs) (fun a ha => nomatch ha)
/-- a def that may be handed own things: what it answers or raises, and what the things are then -/
def spB (K : PySem.W.Frag) (n : Nat) (r : List Cell → Sum Cell Xc → List Cell → Prop) : Sp := fun vs H Q E => ∃ (F : Hp) (cs : List Cell) (a : Sum Cell Xc) (outs : List Cell) (fp : List Addr), Sub F H ∧ RepCL K F H fp vs cs ∧ (∀ b ∈ fp, F b = none ∧ H b ≠ none) ∧ cs.length = n ∧ r cs a outs ∧ (match a with
  | .inl c => ∀ (F' H' : Hp) (v : V) (fq fp' : List Addr), Le (fun b => b ∈ fp) F H F' H' (fun b => b ∈ fq ∨ b ∈ fp') → Sub F' H' → RepC K F' H' fq v c → RepCL K F' H' fp' vs outs → (∀ b ∈ fq, F' b = none ∧ H' b ≠ none ∧ b ∉ fp') → (∀ b ∈ fp', F' b = none ∧ H' b ≠ none) → Q v H'
  | .inr x => ∀ (F' H' : Hp) (d : Option Addr) (fp' : List Addr), Le (fun b => b ∈ fp) F H F' H' (fun b => b ∈ fp') → Sub F' H' → XRep K F' d x.fs → RepCL K F' H' fp' vs outs → (∀ b ∈ fp', F' b = none ∧ H' b ≠ none) → E (.ref (He.ga K x.cls)) d H')
structure CalleeB (P : Program) (w : World) (K : PySem.W.Frag) (mg : Str → Option Value) (base : Heap) (x : Str) (k n : Nat) (r : List Cell → Sum Cell Xc → List Cell → Prop) : Prop where
  ex : ∃ f fd ps, FnOk P w K mg base (L2.CX P w) k f fd ps (spB K n r) ∧ mg x = some (.ref f) ∧ PySem.W.keepIn K (.ref f) = true ∧ Binds K fd ps []
structure CalleeBM (P : Program) (w : World) (K : PySem.W.Frag) (mg : Str → Option Value) (base : Heap) (C m : Str) (k n : Nat) (r : List Cell → Sum Cell Xc → List Cell → Prop) : Prop where
  ex : ∃ f fd ps, FnOk P w K mg base (L2.CX P w) k f fd ps (spB K n r) ∧ Meth K (He.ga K C) m f ∧ Binds K fd ps []
theorem CalleeBM.up {P : Program} {w : World} {K : PySem.W.Frag} {mg : Str → Option Value} {base : Heap} {C m : Str} {k k' n : Nat} {r : List Cell → Sum Cell Xc → List Cell → Prop} (c : CalleeBM P w K mg base C m k n r) (h : k ≤ k') : CalleeBM P w K mg base C m k' n r := by
  obtain ⟨f, fd, ps, h1, h2, h3⟩ := c.ex
  exact ⟨f, fd, ps, h1.mono h, h2, h3⟩

/-! ### a def that is handed own things: its body -/
/-- the cells at the entry -/
def startC (N : List Str) (cs : List Cell) : Env := cs.map some ++ List.replicate (N.length - cs.length) none
def Cell.isFz : Cell → Bool
  | .fz _ => true
  | _ => false
def headC : Env → Cell
  | some c :: _ => c
  | _ => .hl .non
def hasC : Env → Bool
  | some _ :: _ => true
  | _ => false
/-- what the things are at the end: data as it was -/
def outsOf : List Cell → Env → List Cell
  | [], _ => []
  | c :: cs, G => (cond c.isFz c (headC G)) :: outsOf cs G.tail
/-- the slots of the own ones -/
def ownIx : List Cell → Nat → List Nat
  | [], _ => []
  | c :: cs, n => cond c.isFz (ownIx cs (n + 1)) (n :: ownIx cs (n + 1))
/-- each own one has a cell at the end -/
def allOut : List Cell → Env → Bool
  | [], _ => true
  | c :: cs, G => (c.isFz || hasC G) && allOut cs G.tail
inductive OutB : Out → Sum Cell Xc → Env → Prop
  | rt (c : Cell) (G : Env) : OutB (.rt c (some G)) (.inl c) G
  | nx (G : Env) : OutB (.nx G) (.inl (.fz .non)) G
  | xc (x : Xc) (G : Env) : OutB (.xc x G) (.inr x) G
theorem RepCL.get {K : PySem.W.Frag} {F H : Hp} : ∀ {fp : List Addr} {vs : List V} {cs : List Cell}, RepCL K F H fp vs cs → ∀ {i : Nat} {c : Cell}, cs[i]? = some c → ∃ v fpi, vs[i]? = some v ∧ RepC K F H fpi v c ∧ (∀ a ∈ fpi, a ∈ fp)
  | _, _, _, .nil, i, c, h => by simp at h
  | _, _, _, .cons r rs d, 0, c, h => by
    simp at h; subst h
    exact ⟨_, _, rfl, r, fun a ha => List.mem_append_left _ ha⟩
  | _, _, _, .cons r rs d, i + 1, c, h => by
    obtain ⟨v, fpi, h1, h2, h3⟩ := rs.get (i := i) (c := c) (by simpa using h)
    exact ⟨v, fpi, by simpa using h1, h2, fun a ha => List.mem_append_right _ (h3 a ha)⟩
/-- the footprints, slot by slot -/
theorem RepCL.fps {K : PySem.W.Frag} {F H : Hp} : ∀ {fp : List Addr} {vs : List V} {cs : List Cell}, RepCL K F H fp vs cs → ∃ fps : Nat → List Addr, (∀ i c, cs[i]? = some c → ∃ v, vs[i]? = some v ∧ RepC K F H (fps i) v c) ∧ (∀ i a, a ∈ fps i → a ∈ fp) ∧ (∀ i j a, a ∈ fps i → a ∈ fps j → i = j) ∧ (∀ a ∈ fp, ∃ i, a ∈ fps i)
  | _, _, _, .nil => ⟨fun _ => [], fun i c h => by simp at h, (fun i a h => by cases h), (fun i j a h => by cases h), (fun a h => by cases h)⟩
  | _, _, _, .cons (v := v) (c := c) (fp := fpa) (fq := fqa) r rs d => by
    obtain ⟨fps, h1, h2, h3, h4⟩ := rs.fps
    refine ⟨fun i => match i with | 0 => fpa | i + 1 => fps i, fun i c' h => ?_, fun i a h => ?_, fun i j a h h' => ?_, fun a h => ?_⟩
    · cases i with
      | zero => simp at h; subst h; exact ⟨v, rfl, r⟩
      | succ i => exact h1 i c' (by simpa using h)
    · cases i with
      | zero => exact List.mem_append_left _ h
      | succ i => exact List.mem_append_right _ (h2 i a h)
    · cases i with
      | zero => cases j with
        | zero => rfl
        | succ j => exact absurd (h2 j a h') (d a h)
      | succ i => cases j with
        | zero => exact absurd (h2 i a h) (d a h')
        | succ j => exact congrArg (· + 1) (h3 i j a h h')
    · rcases List.mem_append.mp h with h | h
      · exact ⟨0, h⟩
      · obtain ⟨i, hi⟩ := h4 a h
        exact ⟨i + 1, hi⟩
theorem startC_ok {K : PySem.W.Frag} {F H : Hp} {N : List Str} {vs : List V} {cs : List Cell} {fp : List Addr} (s : Sub F H) (r : RepCL K F H fp vs cs) (n : ∀ b ∈ fp, F b = none ∧ H b ≠ none) : ∃ fps, EnvOk K F H (L2.start N vs) (startC N cs) fps ∧ (∀ a, Owns fps a ↔ a ∈ fp) := by
  obtain ⟨fps, h1, h2, h3, h4⟩ := r.fps
  refine ⟨fps, ⟨s, by unfold L2.start startC; simp [r.len], fun i c h => ?_, fun i a h => n a (h2 i a h), h3⟩, fun a => ⟨fun ⟨i, h⟩ => h2 i a h, h4 a⟩⟩
  unfold startC at h
  unfold L2.start
  by_cases hi : i < cs.length
  · rw [List.getElem?_append_left (by simpa using hi), List.getElem?_map] at h
    have e1 : cs[i]? = some cs[i] := by simp [hi]
    rw [e1] at h
    cases h
    obtain ⟨v, e2, e3⟩ := h1 i _ e1
    refine ⟨v, ?_, e3⟩
    rw [List.getElem?_append_left (by simp [r.len, hi]), List.getElem?_map, e2]
    rfl
  · rw [List.getElem?_append_right (by simpa using Nat.le_of_not_lt hi)] at h
    rw [List.getElem?_replicate] at h
    split at h <;> cases h
theorem ownIx_ge : ∀ (cs : List Cell) (n i : Nat), i ∈ ownIx cs n → n ≤ i
  | [], n, i, h => by cases h
  | c :: cs, n, i, h => by
    unfold ownIx at h
    cases e : c.isFz with
    | true => rw [e] at h; have := ownIx_ge cs (n + 1) i h; omega
    | false =>
      rw [e] at h
      rcases List.mem_cons.mp h with h | h
      · omega
      · have := ownIx_ge cs (n + 1) i h; omega
/-- from the end's cells -/
theorem outs_ok {K : PySem.W.Frag} {F H : Hp} {σ : L2.St} {fps : Nat → List Addr} : ∀ (cs : List Cell) (vs : List V) (G : Env) (n : Nat), allOut cs G = true → vs.length = cs.length → (∀ (i : Nat) d, cs[i]? = some (Cell.fz d) → ∃ v, vs[i]? = some v ∧ Rep K F v d) →
    (∀ (i : Nat) c, G[i]? = some (some c) → ∃ v, σ[n + i]? = some (some v) ∧ RepC K F H (fps (n + i)) v c) → (∀ i, i ∈ ownIx cs n → ∃ v, vs[i - n]? = some v ∧ σ[i]? = some (some v)) → (∀ i j a, a ∈ fps i → a ∈ fps j → i = j) →
    ∃ fp, RepCL K F H fp vs (outsOf cs G) ∧ ∀ a ∈ fp, ∃ i, n ≤ i ∧ a ∈ fps i
  | [], [], _, _, _, _, _, _, _, _ => ⟨[], .nil, fun a h => by cases h⟩
  | [], _ :: _, _, _, _, h, _, _, _, _ => nomatch h
  | _ :: _, [], _, _, _, h, _, _, _, _ => nomatch h
  | c :: cs, v :: vs, G, n, ha, hl, hf, hG, hs, hd => by
    unfold allOut at ha
    rw [Bool.and_eq_true] at ha
    have sub : ∀ i, i ∈ ownIx cs (n + 1) → i ∈ ownIx (c :: cs) n := fun i hi => by
      unfold ownIx
      cases c.isFz with
      | true => exact hi
      | false => exact List.mem_cons_of_mem _ hi
    obtain ⟨fp, r1, r2⟩ := outs_ok cs vs G.tail (n + 1) ha.2 (by simpa using hl) (fun i d h => by
      obtain ⟨w, h1, h2⟩ := hf (i + 1) d (by simpa using h)
      exact ⟨w, by simpa using h1, h2⟩) (fun i c' h => by
      have := hG (i + 1) c' (by cases G with | nil => simp at h | cons g G => simpa using h)
      have e : n + (i + 1) = n + 1 + i := by omega
      rw [e] at this
      exact this) (fun i hi => by
      obtain ⟨w, h1, h2⟩ := hs i (sub i hi)
      have h3 := ownIx_ge cs (n + 1) i hi
      have e : i - n = (i - (n + 1)) + 1 := by omega
      rw [e] at h1
      exact ⟨w, by simpa using h1, h2⟩) hd
    unfold outsOf
    cases e : c.isFz with
    | true =>
      cases c with
      | fz d =>
        obtain ⟨w, h1, h2⟩ := hf 0 d rfl
        have e0 : w = v := by simpa using h1.symm
        subst e0
        refine ⟨[] ++ fp, .cons (.fz h2) r1 (fun a ha' => nomatch ha'), fun a ha' => ?_⟩
        obtain ⟨i, i1, i2⟩ := r2 a (by simpa using ha')
        exact ⟨i, by omega, i2⟩
      | _ => cases e
    | false =>
      have h2 : hasC G = true := by
        have := ha.1
        rw [e] at this
        simpa using this
      obtain ⟨w, s1, s2⟩ := hs n (by unfold ownIx; rw [e]; simp)
      have e0 : w = v := by simpa using s1.symm
      subst e0
      cases G with
      | nil => cases h2
      | cons g G =>
        cases g with
        | none => cases h2
        | some c2 =>
          obtain ⟨w2, q1, q2⟩ := hG 0 c2 rfl
          rw [Nat.add_zero] at q1 q2
          rw [s2] at q1; cases q1
          refine ⟨fps n ++ fp, .cons q2 r1 fun a ha' hb => ?_, fun a ha' => ?_⟩
          · obtain ⟨i, i1, i2⟩ := r2 a hb
            have := hd n i a ha' i2
            omega
          · rcases List.mem_append.mp ha' with h | h
            · exact ⟨n, Nat.le_refl n, h⟩
            · obtain ⟨i, i1, i2⟩ := r2 a h
              exact ⟨i, by omega, i2⟩
section
variable {P : Program} {w : World} {K : PySem.W.Frag} {mg : Str → Option Value} {base : Heap}
theorem fnOk_mkB {x qual : Str} {params : Arguments} {body : List Stmt} {scope : Scope} {f : Addr} {fd : FuncData} {N ps : List Str} {k : Nat} {r : List Cell → Sum Cell Xc → List Cell → Prop} (F : FunD K x qual params body scope [] [] f fd) (S : FnScope N ps scope)
    (h : ∀ (cdv : Value) (A : Around) (outer : List PySem.Env) (s : Shared) (H : Hp) (E : XK) (cs : List Cell) (a : Sum Cell Xc) (outs : List Cell), Room k (A.deeper (PyProof.Rows.envOfC qual scope s.heap.objs.size f cdv)) → r cs a outs → cs.length = ps.length →
      ∃ o Gr, OutB o a Gr ∧ allOut cs Gr = true ∧ outs = outsOf cs Gr ∧ ∀ vl, Run (cxOf (L2.CX P w) P w K mg base N qual scope f cdv A outer s H E) K (wE E) ⟨ownIx cs 0, vl⟩ body (startC N cs) o) : FnOk P w K mg base (L2.CX P w) (k + 1) f fd ps (spB K ps.length r) := by
  refine F.ok S (fun vs H Q E ⟨F', cs, a, outs, fp, _, rl, _, hn, _⟩ => by rw [rl.len, hn]) fun cdv A outer s H vs Q E hr ⟨F', cs, a, outs, fp, hs, rl, hfp, hn, hR, hq⟩ => ?_
  obtain ⟨o, Gr, ho, hal, hou, run⟩ := h cdv A outer s H E cs a outs hr hR hn
  subst hou
  obtain ⟨fps, E0, ow⟩ := startC_ok (N := N) hs rl hfp
  have slf : Slf ⟨ownIx cs 0, fun i => (vs[i]?).getD .non⟩ (L2.start N vs) := fun i hi => by
    have hlt : ∀ (cs : List Cell) (n i : Nat), i ∈ ownIx cs n → i < n + cs.length := by
      intro cs
      induction cs with
      | nil => intro n i h; cases h
      | cons c cs ih =>
        intro n i h
        unfold ownIx at h
        cases e : c.isFz with
        | true => rw [e] at h; have := ih (n + 1) i h; rw [List.length_cons]; omega
        | false =>
          rw [e] at h
          rcases List.mem_cons.mp h with h | h
          · rw [List.length_cons]; omega
          · have := ih (n + 1) i h; rw [List.length_cons]; omega
    have hi2 : i < vs.length := by have := hlt cs 0 i hi; rw [rl.len]; omega
    unfold L2.start
    rw [List.getElem?_append_left (by simpa using hi2), List.getElem?_map, List.getElem?_eq_getElem hi2]
    show some (some vs[i]) = some (some ((vs[i]?).getD .non))
    rw [List.getElem?_eq_getElem hi2]
    rfl
  have final : ∀ (F2 H2 : Hp) (σ' : L2.St) (fps' : Nat → List Addr), EnvOk K F2 H2 σ' Gr fps' → Slf ⟨ownIx cs 0, fun i => (vs[i]?).getD .non⟩ σ' → Ex F' F2 → ∃ fp', RepCL K F2 H2 fp' vs (outsOf cs Gr) ∧ (∀ a ∈ fp', Owns fps' a) := fun F2 H2 σ' fps' e' sl ex => by
    obtain ⟨fp', r1, r2⟩ := outs_ok (K := K) (F := F2) (H := H2) (σ := σ') (fps := fps') cs vs Gr 0 hal rl.len (fun i d hd => by
      obtain ⟨v, fpi, h1, h2, _⟩ := rl.get hd
      exact ⟨v, h1, h2.there.2.mono ex⟩) (fun i c hc => by rw [Nat.zero_add]; exact e'.ent i c hc) (fun i hi => by
      have := sl i hi
      have hi2 : i < vs.length := by
        cases q : vs[i]? with
        | none =>
          have hlt : ∀ (cs : List Cell) (n i : Nat), i ∈ ownIx cs n → i < n + cs.length := by
            intro cs
            induction cs with
            | nil => intro n i h; cases h
            | cons c cs ih =>
              intro n i h
              unfold ownIx at h
              cases e : c.isFz with
              | true => rw [e] at h; have := ih (n + 1) i h; rw [List.length_cons]; omega
              | false =>
                rw [e] at h
                rcases List.mem_cons.mp h with h | h
                · rw [List.length_cons]; omega
                · have := ih (n + 1) i h; rw [List.length_cons]; omega
          have := hlt cs 0 i hi
          rw [rl.len]; omega
        | some v => exact (List.getElem?_eq_some_iff.mp q).1
      refine ⟨vs[i], by simp [hi2], ?_⟩
      rw [this]
      simp [hi2]) e'.dis
    exact ⟨fp', r1, fun a ha => let ⟨i, _, hi⟩ := r2 a ha; ⟨i, hi⟩⟩
  refine run (fun i => (vs[i]?).getD .non) F' H (L2.start N vs) fps { nx := fun _ H' => Q .non H', rt := Q } E0 slf ?_
  have leO : ∀ {F2 H2 : Hp} {O : Addr → Prop}, Le (Owns fps) F' H F2 H2 O → Le (fun b => b ∈ fp) F' H F2 H2 O := fun l => ⟨l.fr, fun a o n z => l.hp a o (fun y => n ((ow a).mp y)) z, fun a n z z' => l.nw a (fun y => n ((ow a).mp y)) z z', fun a z => (l.ow a z).imp (ow a).mp id⟩
  cases ho with
  | rt c =>
    intro F2 H2 σ' fps' v fq e' sl l rc n
    obtain ⟨fp', r1, r2⟩ := final F2 H2 σ' fps' e' sl l.fr
    exact hq F2 H2 v fq fp' ⟨l.fr, (leO l).hp, (leO l).nw, fun a z => (leO l).ow a (z.imp id (r2 a))⟩ e'.sub rc r1 (fun b hb => ⟨(n b hb).1, (n b hb).2.1, fun y => (n b hb).2.2 (r2 b y)⟩) (fun b hb => e'.ownF (r2 b hb))
  | nx =>
    intro F2 H2 σ' fps' e' sl l
    obtain ⟨fp', r1, r2⟩ := final F2 H2 σ' fps' e' sl l.fr
    exact hq F2 H2 .non [] fp' ⟨l.fr, (leO l).hp, (leO l).nw, fun a z => (leO l).ow a (z.elim (fun y => nomatch y) (r2 a))⟩ e'.sub (.fz .non) r1 (fun b hb => nomatch hb) (fun b hb => e'.ownF (r2 b hb))
  | xc x =>
    intro F2 H2 σ' fps' d e' sl l xr
    obtain ⟨fp', r1, r2⟩ := final F2 H2 σ' fps' e' sl l.fr
    exact hq F2 H2 d fp' ⟨l.fr, (leO l).hp, (leO l).nw, fun a z => (leO l).ow a (r2 a z)⟩ e'.sub xr r1 (fun b hb => e'.ownF (r2 b hb))
end
end Vs

/-! The caller's side: own things lent, what an expression changes. -/
namespace Vs
open PySem PySem.Spec L2
/-- an argument: data, or the own thing at a place -/
inductive Ag where
  | fz (d : Dt)
  | ow (i : Nat) (π : List Nat) (c : Cell)
def Ag.cell : Ag → Cell
  | .fz d => .fz d
  | .ow _ _ c => c
/-- the slots lent -/
def Ag.ixs : List Ag → List Nat
  | [] => []
  | .fz _ :: as => Ag.ixs as
  | .ow i _ _ :: as => i :: Ag.ixs as
/-- the things stand there, in unlike slots -/
def AgOk (G : Env) : List Ag → Prop
  | [] => True
  | .fz _ :: as => AgOk G as
  | .ow i π c :: as => atG G i π = some c ∧ noneIn [i] (Ag.ixs as) = true ∧ AgOk G as
/-- the cells behind -/
def outG (G : Env) : List Ag → List Cell → Env
  | [], _ => G
  | .fz _ :: as, cs => outG G as cs.tail
  | .ow i π _ :: as, cs => outG (updG G i π (match cs with | c :: _ => c | [] => .hl .non)) as cs.tail
inductive AgRep (K : PySem.W.Frag) (F H : Hp) (σ : L2.St) : List V → List Ag → Prop
  | nil : AgRep K F H σ [] []
  | fz {v : V} {d : Dt} {vs : List V} {as : List Ag} : Rep K F v d → AgRep K F H σ vs as → AgRep K F H σ (v :: vs) (.fz d :: as)
  | ow {v : V} {i : Nat} {π : List Nat} {c : Cell} {vs : List V} {as : List Ag} : LocG H σ i π v → AgRep K F H σ vs as → AgRep K F H σ (v :: vs) (.ow i π c :: as)
theorem AgRep.mono {K : PySem.W.Frag} {F H F' H' : Hp} {σ : L2.St} (e : Ex F F') (h : Ex H H') : ∀ {vs : List V} {as : List Ag}, AgRep K F H σ vs as → AgRep K F' H' σ vs as
  | _, _, .nil => .nil
  | _, _, .fz r rs => .fz (r.mono e) (rs.mono e h)
  | _, _, .ow l rs => .ow (l.mono h) (rs.mono e h)
theorem AgRep.len {K : PySem.W.Frag} {F H : Hp} {σ : L2.St} : ∀ {vs : List V} {as : List Ag}, AgRep K F H σ vs as → vs.length = as.length
  | _, _, .nil => rfl
  | _, _, .fz _ rs => congrArg (· + 1) rs.len
  | _, _, .ow _ rs => congrArg (· + 1) rs.len
theorem noneIn_mem {i : Nat} : ∀ {js : List Nat}, noneIn [i] js = true → ∀ j ∈ js, j ≠ i := fun h j hj e => noneIn_ok h i (by simp) (e ▸ hj)
theorem AgOk.ne {G : Env} {i : Nat} {π : List Nat} {x : Cell} : ∀ {as : List Ag}, AgOk G as → (∀ j ∈ Ag.ixs as, j ≠ i) → AgOk (updG G i π x) as
  | [], _, _ => trivial
  | .fz _ :: as, h, n => AgOk.ne (as := as) h n
  | .ow j ρ c :: as, h, n => ⟨by rw [atG_ne (fun z => n j (by simp [Ag.ixs]) z.symm)]; exact h.1, h.2.1, AgOk.ne (as := as) h.2.2 fun m hm => n m (by simp [Ag.ixs, hm])⟩
theorem outG_at {i : Nat} {π : List Nat} : ∀ (as : List Ag) (cs : List Cell) (G : Env), (∀ j ∈ Ag.ixs as, j ≠ i) → atG (outG G as cs) i π = atG G i π
  | [], _, _, _ => rfl
  | .fz _ :: as, cs, G, n => outG_at as cs.tail G n
  | .ow j ρ c :: as, cs, G, n => by
    unfold outG
    rw [outG_at as cs.tail _ fun m hm => n m (by simp [Ag.ixs, hm]), atG_ne (n j (by simp [Ag.ixs]))]
theorem outG_upd {i : Nat} {π : List Nat} {x y : Cell} : ∀ (as : List Ag) (cs : List Cell) (G : Env), (∀ j ∈ Ag.ixs as, j ≠ i) → updG (outG (updG G i π x) as cs) i π y = outG (updG G i π y) as cs
  | [], _, _, _ => updG_upd
  | .fz _ :: as, cs, G, n => outG_upd as cs.tail G n
  | .ow j ρ c :: as, cs, G, n => by
    unfold outG
    have hj : j ≠ i := n j (by simp [Ag.ixs])
    rw [updG_comm (fun z => hj z.symm), outG_upd as cs.tail _ fun m hm => n m (by simp [Ag.ixs, hm]), updG_comm hj]
section
variable {K : PySem.W.Frag}
/-- own things are lent, and given back -/
theorem lend : ∀ (as : List Ag) (G : Env) (F H : Hp) (σ : L2.St) (fps : Nat → List Addr) (vs : List V), EnvOk K F H σ G fps → AgOk G as → AgRep K F H σ vs as →
    ∃ (fp : List Addr) (fps1 : Nat → List Addr) (Gh : Env), RepCL K F H fp vs (as.map Ag.cell) ∧ EnvOk K F H σ Gh fps1 ∧ (∀ a, Owns fps a ↔ Owns fps1 a ∨ a ∈ fp) ∧ (∀ a ∈ fp, ¬ Owns fps1 a) ∧
      ∀ (F2 H2 : Hp) (outs : List Cell) (fp' : List Addr), EnvOk K F2 H2 σ Gh fps1 → RepCL K F2 H2 fp' vs outs → (∀ a ∈ fp', F2 a = none ∧ H2 a ≠ none ∧ ¬ Owns fps1 a) → ∃ fps3, EnvOk K F2 H2 σ (outG G as outs) fps3 ∧ ∀ a, Owns fps3 a → Owns fps1 a ∨ a ∈ fp'
  | [], G, F, H, σ, fps, _, E, _, .nil => ⟨[], fps, G, .nil, E, fun a => by simp, (fun a h => nomatch h), fun F2 H2 outs fp' E2 _ _ => ⟨fps, E2, fun a h => .inl h⟩⟩
  | .fz d :: as, G, F, H, σ, fps, _, E, ok, .fz (v := v) (vs := vs) r rs => by
    obtain ⟨fp, fps1, Gh, h1, h2, h3, h4, h5⟩ := lend as G F H σ fps vs E ok rs
    refine ⟨[] ++ fp, fps1, Gh, .cons (.fz r) h1 (fun a ha => nomatch ha), h2, h3, h4, fun F2 H2 outs fp' E2 ro n => ?_⟩
    cases ro with
    | cons r1 r2 _ =>
      obtain ⟨fps3, e3, o3⟩ := h5 F2 H2 _ _ E2 r2 fun a ha => n a (List.mem_append_right _ ha)
      exact ⟨fps3, e3, fun a ha => (o3 a ha).imp id (List.mem_append_right _)⟩
  | .ow i π c :: as, G, F, H, σ, fps, _, E, ok, .ow (v := v) (vs := vs) l rs => by
    obtain ⟨ok1, ok2, ok3⟩ := ok
    have nj := noneIn_mem ok2
    obtain ⟨v', fpc, fpsA, l', rc, EA', ow, ds⟩ := E.take ok1
    obtain rfl := l.fun l'
    obtain ⟨fp, fps1, Gh, h1, h2, h3, h4, h5⟩ := lend as (updG G i π (.hl v)) F H σ fpsA vs EA' (ok3.ne nj) rs
    refine ⟨fpc ++ fp, fps1, Gh, .cons rc h1 fun a ha hb => ds a ha ((h3 a).mpr (.inr hb)), h2, fun a => ?_, fun a ha => ?_, fun F2 H2 outs fp' E2 ro n => ?_⟩
    · rw [ow a, h3 a, List.mem_append]
      constructor
      · rintro ((h | h) | h)
        · exact .inl h
        · exact .inr (.inr h)
        · exact .inr (.inl h)
      · rintro (h | h | h)
        · exact .inl (.inl h)
        · exact .inr h
        · exact .inl (.inr h)
    · rcases List.mem_append.mp ha with h | h
      · exact fun z => ds a h ((h3 a).mpr (.inl z))
      · exact h4 a h
    · cases ro with
      | cons r1 r2 dj =>
        rename_i c2 fpa fqa cs
        obtain ⟨fps3, e3, o3⟩ := h5 F2 H2 _ _ E2 r2 fun a ha => n a (List.mem_append_right _ ha)
        have hat : atG (outG (updG G i π (.hl v)) as cs) i π = some (.hl v) := by rw [outG_at as cs _ nj]; exact atG_upd ok1
        obtain ⟨fps4, e4, o4⟩ := e3.give hat r1 (fun a ha => let z := n a (List.mem_append_left _ ha); ⟨z.1, z.2.1⟩) fun a ha z => by
          rcases o3 a z with y | y
          · exact (n a (List.mem_append_left _ ha)).2.2 y
          · exact dj a ha y
        rw [outG_upd as cs G nj] at e4
        exact ⟨fps4, e4, fun a ha => by
          rcases (o4 a).mp ha with y | y
          · exact (o3 a y).imp id (List.mem_append_right _)
          · exact .inr (List.mem_append_left _ y)⟩
end

theorem repCF_no {K : PySem.W.Frag} {F H : Hp} {f : Str} : ∀ {fp : List Addr} {vs : List (Str × V)} {fs : List (Str × Cell)}, RepCF K F H fp vs fs → ixF f fs = none → vs.lookup f = none
  | _, _, _, .nil, _ => rfl
  | _, _, _, .cons (k := g) _ rs _, h => by
    unfold ixF at h
    by_cases e : g = f
    · rw [if_pos e] at h; cases h
    · rw [if_neg e] at h
      have e' : (f == g) = false := by simpa using fun z : f = g => e z.symm
      rw [List.lookup_cons, e']
      refine repCF_no rs ?_
      cases q : ixF f _ with
      | none => rfl
      | some m => rw [q] at h; cases h
/-! ### judgements -/
section
variable {X : Cx} {K : PySem.W.Frag} {W : WX} {G : Env}
/-- arguments, own ones by their places -/
def EAB (X : Cx) (K : PySem.W.Frag) (G : Env) (es : List Expr) (as : List Ag) : Prop :=
  ∀ F H σ fps (Q : List V → Hp → Prop), EnvOk K F H σ G fps → (∀ F' H' vs, Up F H F' H' → AgRep K F' H' σ vs as → Q vs H') → wpA (one X) es σ H Q
theorem eab_nil : EAB X K G [] [] := fun F H σ fps Q e q => ⟨_, fun _ => pa_nil, q F H [] (Up.refl e.sub) .nil⟩
theorem eab_fz {e : Expr} {es : List Expr} {d : Dt} {as : List Ag} (h : EX (one X) K G e d) (hr : EAB X K G es as) (he : starEach (e :: es) X.env = (false, eval e X.env) :: starEach es X.env := by rfl) : EAB X K G (e :: es) (.fz d :: as) := fun F H σ fps Q E q =>
  ⟨tCons (wpE (one X) e) (wpA (one X) es), fun _ => pa_cons pe_w1 pa_w1 he, h F H σ fps _ E fun F1 H1 v u r => hr F1 H1 σ fps _ (E.up u) fun F2 H2 vs u2 rs => q F2 H2 _ (u.trans u2) (.fz (r.mono u2.fr) rs)⟩
theorem eab_ow {e : Expr} {es : List Expr} {i : Nat} {π : List Nat} {c : Cell} {as : List Ag} (h : EP (one X) K G e i π) (hr : EAB X K G es as) (he : starEach (e :: es) X.env = (false, eval e X.env) :: starEach es X.env := by rfl) : EAB X K G (e :: es) (.ow i π c :: as) := fun F H σ fps Q E q =>
  ⟨tCons (wpE (one X) e) (wpA (one X) es), fun _ => pa_cons pe_w1 pa_w1 he, h F H σ fps _ E fun F1 H1 v u l => hr F1 H1 σ fps _ (E.up u) fun F2 H2 vs u2 rs => q F2 H2 _ (u.trans u2) (.ow (l.mono u2.hp) rs)⟩
/-- e gives the cell c; the names' cells are then G' -/
def EV (X : Cx) (K : PySem.W.Frag) (G : Env) (e : Expr) (c : Cell) (G' : Env) : Prop :=
  ∀ F H σ fps (Q : VK), EnvOk K F H σ G fps → (∀ F' H' v fq fps', EnvOk K F' H' σ G' fps' → Le (Owns fps) F H F' H' (fun a => a ∈ fq ∨ Owns fps' a) → RepC K F' H' fq v c → (∀ a ∈ fq, F' a = none ∧ H' a ≠ none ∧ ¬ Owns fps' a) → Q v H') → wpE (one X) e σ H Q
theorem EN.ev {e : Expr} {c : Cell} (h : EN (one X) K G e c) : EV X K G e c G := fun F H σ fps Q E q => h F H σ fps Q E fun F' H' v fp u r n =>
  q F' H' v fp fps (E.up u) ⟨u.fr, fun a o _ z => u.hp a o z, fun a _ z z' => u.nw a z z', fun a z => z.elim (fun y => .inr (n a y).1) .inl⟩ r fun a ha => ⟨(n a ha).2.1, (n a ha).2.2, fun z => (E.ownF z).2 (n a ha).1⟩
theorem EX.ev {e : Expr} {d : Dt} (h : EX (one X) K G e d) : EV X K G e (.fz d) G := h.en.ev
/-- an own thing as it stands, its name then empty: only where the name is not asked for again -/
theorem le_of_call {F H F1 H1 F' H' : Hp} {O O1 O2 : Addr → Prop} {fp : List Addr} {Q : Addr → Prop} (u : Up F H F1 H1) (ow : ∀ a, O a ↔ O1 a ∨ a ∈ fp) (l : Le (fun b => b ∈ fp) F1 H1 F' H' Q) (h : ∀ a, O2 a → O1 a ∨ Q a) : Le O F H F' H' O2 := by
  refine ⟨u.fr.trans l.fr, fun a o n z => l.hp a o (fun y => n ((ow a).mpr (.inr y))) (u.hp a o z), fun a n z z' => ?_, fun a z => ?_⟩
  · have z1 := u.nw a z z'
    refine l.nw a (fun y => n ((ow a).mpr (.inr y))) z1 ?_
    cases q : H a with
    | none => exact absurd q z'
    | some o => rw [u.hp a o q]; simp
  · rcases h a z with y | y
    · exact .inl ((ow a).mpr (.inl y))
    · rcases l.ow a y with y | y
      · exact .inl ((ow a).mpr (.inr y))
      · exact .inr (u.hp.free y)
variable {P : Program} {w : World} {mg : Str → Option Value} {base : Heap}
/-- what the call's promise asks, from lent things -/
theorem lent_call {F H F1 H1 : Hp} {σ : L2.St} {fps : Nat → List Addr} {n : Nat} {r : List Cell → Sum Cell Xc → List Cell → Prop} {as : List Ag} {vs : List V} {c : Cell} {outs : List Cell} {Q : VK} {E0' : XK} (Eo : EnvOk K F H σ G fps) (u : Up F H F1 H1) (ra : AgRep K F1 H1 σ vs as) (ok : AgOk G as) (hn : as.length = n) (hR : r (as.map Ag.cell) (.inl c) outs)
    (q : ∀ F' H' v fq fps', EnvOk K F' H' σ (outG G as outs) fps' → Le (Owns fps) F H F' H' (fun a => a ∈ fq ∨ Owns fps' a) → RepC K F' H' fq v c → (∀ a ∈ fq, F' a = none ∧ H' a ≠ none ∧ ¬ Owns fps' a) → Q v H') : spB K n r vs H1 Q E0' := by
  have E1 := Eo.up u
  obtain ⟨fp, fps1, Gh, h1, h2, h3, h4, h5⟩ := lend as G F1 H1 σ fps vs E1 ok ra
  refine ⟨F1, as.map Ag.cell, .inl c, outs, fp, u.sb, h1, fun b hb => E1.ownF ((h3 b).mpr (.inr hb)), by rw [List.length_map]; exact hn, hR, fun F' H' v fq fp' l s rc ro n1 n2 => ?_⟩
  have E2 : EnvOk K F' H' σ Gh fps1 := h2.keep l.fr s (fun a ha o z => l.hp a o (fun y => h4 a y ha) z) fun a ha => l.nw a (fun y => h4 a y ha) (h2.ownF ha).1 (h2.ownF ha).2
  have nw : ∀ a, a ∈ fq ∨ a ∈ fp' → ¬ Owns fps1 a := fun a ha z => by
    rcases l.ow a ha with y | y
    · exact h4 a y z
    · exact (h2.ownF z).2 y
  obtain ⟨fps3, e3, o3⟩ := h5 F' H' outs fp' E2 ro fun a ha => ⟨(n2 a ha).1, (n2 a ha).2, nw a (.inr ha)⟩
  refine q F' H' v fq fps3 e3 (le_of_call u h3 l fun a z => ?_) rc fun a ha => ⟨(n1 a ha).1, (n1 a ha).2.1, fun z => ?_⟩
  · rcases z with z | z
    · exact .inr (.inl z)
    · exact (o3 a z).imp id .inr
  · rcases o3 a z with y | y
    · exact nw a (.inl ha) y
    · exact (n1 a ha).2.2 y
theorem ev_call {x : Str} {k n : Nat} {r : List Cell → Sum Cell Xc → List Cell → Prop} {p pos : Pos} {e : Expr} {es : List Expr} {as : List Ag} {c : Cell} {outs : List Cell} {G' : Env} (C : CalleeB P w K mg base x k n r) (hX : Of (one X) P w K mg base) (hr : Room k X.A) (hg : Gl X x)
    (ha : EAB X K G (e :: es) as) (ok : AgOk G as) (hn : as.length = n) (hR : r (as.map Ag.cell) (.inl c) outs) (hG : outG G as outs = G') (hdb : (x == ("__debug__" : Str)) = false := by decide) (he : starEach (e :: es) X.env = (false, eval e X.env) :: starEach es X.env := by rfl)
    (hpl : (backTo pos (starEach es X.env)).any (·.1) = false := by rfl) : EV X K G (.Call (.Name x p) (e :: es) [] pos) c G' := fun F H σ fps Q Eo q => by
  subst hG
  obtain ⟨f, fd, ps, h1, h2, h3, h4⟩ := C.ex
  refine ⟨tCall (spB K n r) [] E0 (wpA (one X) (e :: es)), fun j => ?_, ha F H σ fps _ Eo fun F1 H1 vs u ra => ?_⟩
  · obtain ⟨e1, e2, e3, e4, e5⟩ := hX j
    subst e1 e2 e3 e4 e5
    exact pe_call h1 hr hg h2 h3 h4 .nil passL pa_w1 hdb he hpl
  · rw [List.append_nil]
    exact lent_call Eo u ra ok hn hR q
/-- o.m(e, ..), o an own object -/
theorem ev_meth {o : Expr} {m C : Str} {k n i : Nat} {π : List Nat} {fs : List (Str × Cell)} {r : List Cell → Sum Cell Xc → List Cell → Prop} {apos pos : Pos} {e : Expr} {es : List Expr} {as : List Ag} {c : Cell} {outs : List Cell} {G' : Env} {pl : Sem Bool} (M : CalleeBM P w K mg base C m k n r) (T : ClF K C) (hX : Of (one X) P w K mg base) (hr : Room k X.A)
    (ho : EP (one X) K G o i π) (ha : EAB X K G (e :: es) as) (ok : AgOk G (.ow i π (.ob C fs) :: as)) (hn : as.length + 1 = n) (hR : r (.ob C fs :: as.map Ag.cell) (.inl c) outs) (hl : ixF m fs = none) (hG : outG G (.ow i π (.ob C fs) :: as) outs = G')
    (hst : starEach (e :: es) X.env = (false, eval e X.env) :: starEach es X.env := by rfl) (hpl : (backTo pos (starEach es X.env)).any (·.1) = false := by rfl)
    (ht : eval (.Call (.Attribute o m apos) (e :: es) [] pos) X.env = (do
      let ov ← eval o X.env
      standAt apos.atName
      let (f, first) ← holding [ov] (getMethod ov m pl)
      callWith pos f first (backTo pos (starEach (e :: es) X.env)) (backToKw pos (keywordEach [] X.env))) := by rfl) : EV X K G (.Call (.Attribute o m apos) (e :: es) [] pos) c G' := fun F H σ fps Q Eo q => by
  subst hG
  obtain ⟨f, fd, ps, h1, h2, h3⟩ := M.ex
  refine ⟨tMeth (He.ga K C) m (spB K n r) [] E0 (wpE (one X) o) (wpA (one X) (e :: es)), fun j => ?_, ho F H σ fps _ Eo fun F1 H1 v u l => ?_⟩
  · obtain ⟨e1, e2, e3, e4, e5⟩ := hX j
    subst e1 e2 e3 e4 e5
    exact pe_meth pe_w1 T.cls h2 h1 hr h3 .nil passL pa_w1 hst hpl ht
  · obtain ⟨fpc, rc, _⟩ := (Eo.up u).loc ok.1 l
    obtain ⟨p, dx, fq, vs0, rfl, _, hp, rf, _⟩ := rc.ob_inv
    refine ⟨p, dx, vs0, rfl, hp, repCF_no rf hl, ha F1 H1 σ fps _ (Eo.up u) fun F2 H2 vs u2 ra => ?_⟩
    rw [List.append_nil]
    exact lent_call (as := .ow i π (.ob C fs) :: as) Eo (u.trans u2) (.ow (l.mono u2.hp) ra) ok hn hR q
theorem ev_meth0 {o : Expr} {m C : Str} {k n i : Nat} {π : List Nat} {fs : List (Str × Cell)} {r : List Cell → Sum Cell Xc → List Cell → Prop} {apos pos : Pos} {c : Cell} {outs : List Cell} {G' : Env} {pl : Sem Bool} (M : CalleeBM P w K mg base C m k n r) (T : ClF K C) (hX : Of (one X) P w K mg base) (hr : Room k X.A)
    (ho : EP (one X) K G o i π) (ok : AgOk G [.ow i π (.ob C fs)]) (hn : 1 = n) (hR : r [.ob C fs] (.inl c) outs) (hl : ixF m fs = none) (hG : outG G [.ow i π (.ob C fs)] outs = G')
    (ht : eval (.Call (.Attribute o m apos) [] [] pos) X.env = (do
      let ov ← eval o X.env
      standAt apos.atName
      let (f, first) ← holding [ov] (getMethod ov m pl)
      callWith pos f first (backTo pos (starEach [] X.env)) (backToKw pos (keywordEach [] X.env))) := by rfl) : EV X K G (.Call (.Attribute o m apos) [] [] pos) c G' := fun F H σ fps Q Eo q => by
  subst hG
  obtain ⟨f, fd, ps, h1, h2, h3⟩ := M.ex
  refine ⟨tMeth (He.ga K C) m (spB K n r) [] E0 (wpE (one X) o) tNil, fun j => ?_, ho F H σ fps _ Eo fun F1 H1 v u l => ?_⟩
  · obtain ⟨e1, e2, e3, e4, e5⟩ := hX j
    subst e1 e2 e3 e4 e5
    exact pe_meth0 pe_w1 T.cls h2 h1 hr h3 .nil passL ht
  · obtain ⟨fpc, rc, _⟩ := (Eo.up u).loc ok.1 l
    obtain ⟨p, dx, fq, vs0, rfl, _, hp, rf, _⟩ := rc.ob_inv
    exact ⟨p, dx, vs0, rfl, hp, repCF_no rf hl, lent_call (as := [.ow i π (.ob C fs)]) Eo u (.ow l .nil) ok hn hR q⟩
/-! ### making -/
structure CalleeBI (P : Program) (w : World) (K : PySem.W.Frag) (mg : Str → Option Value) (base : Heap) (C : Str) (k n : Nat) (r : List Cell → Sum Cell Xc → List Cell → Prop) : Prop where
  ex : ∃ fd ps, FnOk P w K mg base (L2.CX P w) k (He.ma K (He.ga K C) "__init__") fd ps (spB K n r) ∧ Binds K fd ps []
theorem ev_make {C : Str} {k n : Nat} {r : List Cell → Sum Cell Xc → List Cell → Prop} {p pos : Pos} {e : Expr} {es : List Expr} {as : List Ag} {fs : List (Str × Cell)} {outs : List Cell} {G' : Env} (I : CalleeBI P w K mg base C k n r) (M : Mk K (He.ga K C) (He.ma K (He.ga K C) "__init__")) (gC : mg C = some (.ref (He.ga K C)))
    (hX : Of (one X) P w K mg base) (hr : Room (k + 1) X.A) (hg : Gl X C)
    (ha : EAB X K G (e :: es) as) (ok : AgOk G as) (hn : as.length + 1 = n) (hR : r (.ob C [] :: as.map Ag.cell) (.inl (.fz .non)) (.ob C fs :: outs)) (hG : outG G as outs = G') (hdb : (C == ("__debug__" : Str)) = false := by decide) (he : starEach (e :: es) X.env = (false, eval e X.env) :: starEach es X.env := by rfl)
    (hpl : (backTo pos (starEach es X.env)).any (·.1) = false := by rfl) : EV X K G (.Call (.Name C p) (e :: es) [] pos) (.ob C fs) G' := fun F H σ fps Q Eo q => by
  subst hG
  obtain ⟨fd, ps, h1, h3⟩ := I.ex
  refine ⟨tMake (He.ga K C) (spB K n r) [] E0 (wpA (one X) (e :: es)), fun j => ?_, ha F H σ fps _ Eo fun F1 H1 vs u ra => ?_⟩
  · obtain ⟨e1, e2, e3, e4, e5⟩ := hX j
    subst e1 e2 e3 e4 e5
    exact pe_make M h1 hr hg gC h3 .nil passL pa_w1 hdb he hpl
  · intro x dx nx ndx hne
    rw [List.append_nil]
    have E1 := Eo.up u
    have fx : F1 x = none := u.sb.none nx
    have old : ∀ b o, H1 b = some o → (upd (upd H1 dx (.own x)) x (.ins (He.ga K C) dx [])) b = some o := fun b o z => by
      have n1 : b ≠ x := fun y => by rw [y, nx] at z; cases z
      have n2 : b ≠ dx := fun y => by rw [y, ndx] at z; cases z
      rw [upd_ne n1, upd_ne n2]; exact z
    have s1 : Sub F1 (upd (upd H1 dx (.own x)) x (.ins (He.ga K C) dx [])) := fun a o z => by
      rcases u.sb a o z with y | ⟨b, ob, y⟩
      · exact .inl (old _ _ y)
      · exact .inr ⟨b, ob, old _ _ y⟩
    have nwx : ∀ a, F1 a = none → H1 a ≠ none → F1 a = none := fun a z _ => z
    have u2 : Up F1 H1 F1 (upd (upd H1 dx (.own x)) x (.ins (He.ga K C) dx [])) := ⟨Ex.refl _, old, nwx, s1⟩
    obtain ⟨fp, fps1, Gh, g1, g2, g3, g4, g5⟩ := lend as G F1 _ σ fps vs (E1.up u2) ok (ra.mono (Ex.refl _) old)
    have xfp : x ∉ fp := fun z => ((E1.ownF ((g3 x).mpr (.inr z))).2) nx
    have hx : (upd (upd H1 dx (.own x)) x (.ins (He.ga K C) dx [])) x ≠ none := by rw [upd_same]; simp
    refine ⟨F1, .ob C [] :: as.map Ag.cell, .inl (.fz .non), .ob C fs :: outs, [x] ++ fp, s1, .cons (.ob upd_same .nil (by simp)) g1 (fun a ha hb => xfp ((List.mem_singleton.mp ha) ▸ hb)), fun b hb => ?_, by rw [List.length_cons, List.length_map]; exact hn, hR, fun F' H' v fq fp' l s rc ro n1 n2 => ?_⟩
    · rcases List.mem_append.mp hb with z | z
      · obtain rfl : b = x := by simpa using z
        exact ⟨fx, hx⟩
      · exact (E1.up u2).ownF ((g3 b).mpr (.inr z))
    · obtain ⟨rfl, rn⟩ := rc.there
      cases rn
      refine ⟨rfl, ?_⟩
      cases ro with
      | cons r1 r2 dj =>
        rename_i fpa fqa
        have nx1 : ∀ a, Owns fps1 a → a ∉ [x] ++ fp := fun a ha z => by
          rcases List.mem_append.mp z with y | y
          · obtain rfl : a = x := by simpa using y
            exact (E1.ownF ((g3 a).mpr (.inl ha))).2 nx
          · exact g4 a y ha
        have E2 : EnvOk K F' H' σ Gh fps1 := g2.keep l.fr s (fun a ha o z => l.hp a o (nx1 a ha) z) fun a ha => l.nw a (nx1 a ha) (g2.ownF ha).1 (g2.ownF ha).2
        have nw : ∀ a, a ∈ fpa ++ fqa → ¬ Owns fps1 a := fun a ha z => by
          rcases l.ow a (.inr ha) with y | y
          · exact nx1 a z y
          · exact (g2.ownF z).2 y
        obtain ⟨fps3, e3, o3⟩ := g5 F' H' outs fqa E2 r2 fun a ha => ⟨(n2 a (List.mem_append_right _ ha)).1, (n2 a (List.mem_append_right _ ha)).2, nw a (List.mem_append_right _ ha)⟩
        have u12 := u.trans u2
        refine q F' H' (.ref x) fpa fps3 e3 ⟨u.fr.trans l.fr, fun a o n z => ?_, fun a n z z' => ?_, fun a z => ?_⟩ r1 fun a ha => ⟨(n2 a (List.mem_append_left _ ha)).1, (n2 a (List.mem_append_left _ ha)).2, fun z => ?_⟩
        · refine l.hp a o (fun y => ?_) (u12.hp a o z)
          rcases List.mem_append.mp y with y | y
          · obtain rfl : a = x := by simpa using y
            rw [u.hp.free nx] at z; cases z
          · exact n ((g3 a).mpr (.inr y))
        · refine l.nw a (fun y => ?_) (u12.nw a z z') ?_
          · rcases List.mem_append.mp y with y | y
            · obtain rfl : a = x := by simpa using y
              exact z' (u.hp.free nx)
            · exact n ((g3 a).mpr (.inr y))
          · cases q : H a with
            | none => exact absurd q z'
            | some o => rw [u12.hp a o q]; simp
        · have key : a ∈ fpa ++ fqa → Owns fps a ∨ H a = none := fun y => by
            rcases l.ow a (.inr y) with y | y
            · rcases List.mem_append.mp y with y | y
              · obtain rfl : a = x := by simpa using y
                exact .inr (u.hp.free nx)
              · exact .inl ((g3 a).mpr (.inr y))
            · exact .inr (u12.hp.free y)
          rcases z with z | z
          · exact key (List.mem_append_left _ z)
          · rcases o3 a z with y | y
            · exact .inl ((g3 a).mpr (.inl y))
            · exact key (List.mem_append_right _ y)
        · rcases o3 a z with y | y
          · exact nw a (List.mem_append_left _ ha) y
          · exact dj a ha y
end
end Vs

/-! Statements of expressions that may change own things. -/
namespace Vs
open PySem PySem.Spec L2
section
variable {I : Type} {X : I → Cx} {K : PySem.W.Frag} {G : Env}
/-- a new cell is frozen -/
theorem EN.frz {e : Expr} {c : Cell} {d : Dt} (h : EN X K G e c) (hd : c.data = some d) : EX X K G e d := fun F H σ fps Q E q =>
  h F H σ fps Q E fun F1 H1 v fp u r n => by
    have n1 : ∀ a ∈ fp, F1 a = none := fun a ha => (n a ha).2.1
    have ex := frz_ex (H := H1) n1
    refine q (Vs.frz F1 H1 fp) H1 v ⟨u.fr.trans ex, u.hp, fun a z z' => ?_, frz_sub u.sb⟩ (r.frozen ex (fun a ha => frz_in ha) hd)
    by_cases m : a ∈ fp
    · exact absurd (n a m).1 z'
    · rw [frz_out m]; exact u.nw a z z'
end
section
variable {X : Cx} {K : PySem.W.Frag} {W : WX} {sv : Sv} {G : Env} {rest : List Stmt} {o : Out} {pos : Pos}
/-- x = e -/
theorem run_asgE {B : Type} {i : Nat} {x : Str} {e : Expr} {pos' : Pos} (v : B) (enc : B → Cell) (G1 Gk : B → Env) (oF : B → Out) (P : B → Prop) (h : EV X K G e (enc v) (G1 v)) (hp : P v) (hN : X.N.Nodup) (hG : ∀ y, (G1 y).set i (some (enc y)) = Gk y) (k : ∀ y, P y → Run X K W sv rest (Gk y) (oF y))
    (hi : X.N[i]? = some x := by rfl) (hx : Loc X.env.scope x := by first | exact Or.inl rfl | exact Or.inr rfl) (hl : Nat.blt i (G1 v).length = true := by rfl) (hv : memN sv.ks i = false := by rfl)
    (hs : swapsWith e (some (.Name x pos')) pos.line X.env = pure false := by rfl) (hf : X.fn x = true ∨ X.env.scope.names.lookup x = some .local := by first | exact .inl rfl | exact .inr rfl | assumption) (ho : oF v = o := by rfl) :
    Run X K W sv (.Assign [.Name x pos'] e pos :: rest) G o := ho ▸ fun F H σ fps D E s q =>
  ⟨tSeq (tAsg (wpE (one X) e) (gName i)) (wpSs X rest), pss_cons (ps_set hN hi hx pe_w1 hs hf) pss_wp, h F H σ fps _ E fun F1 H1 u fq fps1 E1 l r n => by
    have E2 := E1.set (i := i) (v := u) (Nat.blt_eq.mp hl) r (fun a ha => ⟨(n a ha).1, (n a ha).2.1⟩) fun a ha j _ z => (n a ha).2.2 ⟨j, z⟩
    rw [hG v] at E2
    exact k v hp F1 H1 _ _ D E2 (s.set hv) (q.le ⟨l.fr, l.hp, l.nw, fun a z => l.ow a (owns_put z)⟩)⟩
/-- return e, nothing kept -/
theorem run_retE {e : Expr} {c : Cell} {G1 : Env} (h : EV X K G e c G1) : Run X K W sv (.Return (some e) pos :: rest) G (.rt c none) := fun F H σ fps D E s q =>
  ⟨tSeq (tRet (wpE (one X) e)) tNever, pss_cons (ps_ret pe_w1) pss_never, h F H σ fps _ E fun F1 H1 v fp fps1 E1 l r n =>
    q F1 H1 v fp E1.sub ⟨l.fr, l.hp, l.nw, fun a z => l.ow a (.inl z)⟩ r fun a ha => ⟨(n a ha).1, (n a ha).2.1⟩⟩
/-- return e, own things kept -/
theorem run_retK {e : Expr} {c : Cell} {G1 Gr : Env} (h : EV X K G e c G1) (w : Weak G1 Gr) : Run X K W sv (.Return (some e) pos :: rest) G (.rt c (some Gr)) := fun F H σ fps D E s q =>
  ⟨tSeq (tRet (wpE (one X) e)) tNever, pss_cons (ps_ret pe_w1) pss_never, h F H σ fps _ E fun F1 H1 v fp fps1 E1 l r n =>
    q F1 H1 σ fps1 v fp (w.ok E1) s l r n⟩
/-- e, dropped -/
theorem run_dropE {B : Type} {e : Expr} (v : B) (enc : B → Cell) (G1 : B → Env) (oF : B → Out) (P : B → Prop) (h : EV X K G e (enc v) (G1 v)) (hp : P v) (k : ∀ y, P y → Run X K W sv rest (G1 y) (oF y)) (hs : swapsWith e none pos.line X.env = pure false := by rfl) (ho : oF v = o := by rfl) : Run X K W sv (.Expr e pos :: rest) G o := ho ▸ fun F H σ fps D E s q =>
  ⟨tSeq (tDrop (wpE (one X) e)) (wpSs X rest), pss_cons (ps_expr pe_w1 hs) pss_wp, h F H σ fps _ E fun F1 H1 u fq fps1 E1 l r n =>
    k v hp F1 H1 σ fps1 D E1 s (q.le ⟨l.fr, l.hp, l.nw, fun a z => l.ow a (.inr z)⟩)⟩
/-- an own thing is told, its name with it; the others kept -/
theorem run_retOK {i : Nat} {x : Str} {c : Cell} {pos' : Pos} {Gr : Env} (hg : G[i]? = some (some c)) (hw : Weak (G.set i none) Gr) (hN : X.N[i]? = some x := by rfl) (hv : Vis X.env.scope x := by first | exact Or.inl rfl | exact Or.inr (Or.inl rfl))
    (hd : (x == ("__debug__" : Str)) = false := by decide) (hcd : (x == ("__classdict__" : Str)) = false := by decide) : Run X K W sv (.Return (some (.Name x pos')) pos :: rest) G (.rt c (some Gr)) := fun F H σ fps D E s q => by
  obtain ⟨v, h1, h2⟩ := E.ent i _ hg
  have hlt : i < G.length := (List.getElem?_eq_some_iff.mp hg).1
  have E1 : EnvOk K F H σ (G.set i none) (put fps i []) := by
    refine ⟨E.sub, by rw [List.length_set]; exact E.len, fun j c' h => ?_, fun j a h => ?_, fun j k a h h' => ?_⟩
    · by_cases hj : j = i
      · subst hj; rw [List.getElem?_set_self hlt] at h; cases h
      · rw [List.getElem?_set_ne (fun z => hj z.symm)] at h
        rw [put_ne hj]; exact E.ent j c' h
    · by_cases hj : j = i
      · subst hj; rw [put_same] at h; cases h
      · rw [put_ne hj] at h; exact E.own j a h
    · by_cases hj : j = i
      · subst hj; rw [put_same] at h; cases h
      · by_cases hk : k = i
        · subst hk; rw [put_same] at h'; cases h'
        · rw [put_ne hj] at h; rw [put_ne hk] at h'; exact E.dis j k a h h'
  have ow : ∀ a, Owns (put fps i []) a → Owns fps a := fun a ⟨j, h⟩ => by
    by_cases hj : j = i
    · subst hj; rw [put_same] at h; cases h
    · rw [put_ne hj] at h; exact ⟨j, h⟩
  refine ⟨tSeq (tRet (tVar i)) tNever, pss_cons (ps_ret (pe_var hN hv hd hcd)) pss_never, v, h1, ?_⟩
  refine q F H σ _ v (fps i) (hw.ok E1) s ⟨Ex.refl F, fun _ _ _ z => z, fun _ _ z _ => z, fun a z => .inl (z.elim (fun y => ⟨i, y⟩) (ow a))⟩ h2 fun a ha => ⟨(E.own i a ha).1, (E.own i a ha).2, fun ⟨j, z⟩ => ?_⟩
  by_cases hj : j = i
  · subst hj; rw [put_same] at z; cases z
  · rw [put_ne hj] at z; exact hj (E.dis j i a z ha)

/-! ### fields of own objects are set -/
def putC (f : Str) (c : Cell) : List (Str × Cell) → List (Str × Cell)
  | [] => [(f, c)]
  | (g, x) :: r => if g = f then (g, c) :: r else (g, x) :: putC f c r
theorem repCF_put {F H : Hp} {f : Str} {v : V} {c : Cell} {fq : List Addr} (r : RepC K F H fq v c) : ∀ {fp : List Addr} {vs : List (Str × V)} {fs : List (Str × Cell)}, RepCF K F H fp vs fs → (∀ a ∈ fq, a ∉ fp) → ∃ fp2, RepCF K F H fp2 (putF f v vs) (putC f c fs) ∧ ∀ a ∈ fp2, a ∈ fp ∨ a ∈ fq
  | _, _, _, .nil, _ => ⟨fq ++ [], .cons r .nil (fun a _ z => nomatch z), fun a h => .inr (by simpa using h)⟩
  | _, _, _, .cons (k := g) (fp := fpa) (fq := fqa) r0 rs d, dj => by
    unfold putF putC
    by_cases e : g = f
    · rw [if_pos e, if_pos e]
      exact ⟨fq ++ fqa, .cons r rs fun a ha z => dj a ha (List.mem_append_right _ z), fun a h => (List.mem_append.mp h).elim .inr fun z => .inl (List.mem_append_right _ z)⟩
    · rw [if_neg e, if_neg e]
      obtain ⟨fp2, h1, h2⟩ := repCF_put r rs fun a ha z => dj a ha (List.mem_append_right _ z)
      refine ⟨fpa ++ fp2, .cons r0 h1 fun a ha z => ?_, fun a h => ?_⟩
      · rcases h2 a z with y | y
        · exact d a ha y
        · exact dj a y (List.mem_append_left _ ha)
      · rcases List.mem_append.mp h with z | z
        · exact .inl (List.mem_append_left _ z)
        · exact (h2 a z).imp (List.mem_append_right _) id
/-- t.f = e, t an own object -/
theorem run_setF {B : Type} {i : Nat} {π : List Nat} {t e : Expr} {f C : Str} {ap : Pos} (fs : B → List (Str × Cell)) (v : B) (enc : B → Cell) (G1 Gk : B → Env) (oF : B → Out) (P : B → Prop) (hK : X.K = K) (T : ClF K C) (n : NoAttr K (He.ga K C) f) (h : EV X K G e (enc v) (G1 v)) (hp : P v)
    (ht : EP (one X) K (G1 v) t i π) (hg : atG (G1 v) i π = some (.ob C (fs v))) (hG : ∀ y, updG (G1 y) i π (.ob C (putC f (enc y) (fs y))) = Gk y) (hl : Nat.ble (fs v).length 999 = true) (k : ∀ y, P y → Run X K W sv rest (Gk y) (oF y))
    (hs : swapsWith e (some (.Attribute t f ap)) pos.line X.env = pure false := by rfl) (ho : oF v = o := by rfl) : Run X K W sv (.Assign [.Attribute t f ap] e pos :: rest) G o := ho ▸ fun F H σ fps D Eo s q => by
  refine ⟨tSeq (sFld K (wpE (one X) t) (wpE (one X) e) f) (wpSs X rest), pss_cons (hK ▸ ps_fld pe_w1 pe_w1 hs) pss_wp, h F H σ fps _ Eo fun F1 H1 y fq fps1 E1 l r1 n1 => ?_⟩
  refine ht F1 H1 σ fps1 _ E1 fun F2 H2 u up l2 => ?_
  have E2 := E1.up up
  have r2 : RepC K F2 H2 fq y (enc v) := r1.mono up.fr fun a _ o z => up.hp a o z
  have n2 : ∀ a ∈ fq, F2 a = none ∧ H2 a ≠ none ∧ ¬ Owns fps1 a := fun a ha => ⟨up.nw a (n1 a ha).1 (n1 a ha).2.1, (fun z => (n1 a ha).2.1 (up.hp.free z)), (n1 a ha).2.2⟩
  obtain ⟨u', fpc, fpsA, l', rc, EA, ow, ds⟩ := E2.take hg
  obtain rfl := l2.fun l'
  obtain ⟨p, dx, fqo, vs, rfl, e1, hp', rf, np⟩ := rc.ob_inv
  subst e1
  have ownp : Owns fps1 p := (ow p).mpr (.inr (by simp))
  have Fp : F2 p = none := (E2.ownF ownp).1
  have ne : ∀ a ∈ fq, a ≠ p := fun a ha z => (n2 a ha).2.2 (z ▸ ownp)
  have kp : ∀ a, a ≠ p → ∀ o, H2 a = some o → (upd H2 p (.ins (He.ga K C) dx (putF f y vs))) a = some o := fun a ha o z => by rw [upd_ne ha]; exact z
  have r3 : RepC K F2 (upd H2 p (.ins (He.ga K C) dx (putF f y vs))) fq y (enc v) := r2.mono (Ex.refl _) fun a ha o z => kp a (ne a ha) o z
  have rf3 : RepCF K F2 (upd H2 p (.ins (He.ga K C) dx (putF f y vs))) fqo vs (fs v) := rf.mono (Ex.refl _) fun a ha o z => kp a (fun e => np (e ▸ ha)) o z
  obtain ⟨fp2, rp, sub⟩ := repCF_put (f := f) r3 rf3 fun a ha z => (n2 a ha).2.2 ((ow a).mpr (.inr (List.mem_cons_of_mem _ z)))
  have EB : EnvOk K F2 (upd H2 p (.ins (He.ga K C) dx (putF f y vs))) σ (updG (G1 v) i π (.hl (.ref p))) fpsA := EA.keep (Ex.refl _) (fun a ob z => by
      have hne : a ≠ p := fun e => by subst e; rw [Fp] at z; cases z
      rcases E2.sub a ob z with b | ⟨b, ob', b'⟩
      · exact .inl (by rw [upd_ne hne]; exact b)
      · exact .inr ⟨b, ob', by rw [upd_ne hne]; exact b'⟩) (fun a ha o z => kp a (fun e => ds p (by simp) (e ▸ ha)) o z) fun a ha => (EA.ownF ha).1
  have fresh : ∀ a ∈ fp2, F2 a = none ∧ (upd H2 p (.ins (He.ga K C) dx (putF f y vs))) a ≠ none ∧ ¬ Owns fpsA a ∧ a ≠ p := fun a ha => by
    rcases sub a ha with z | z
    · have o1 : Owns fps1 a := (ow a).mpr (.inr (List.mem_cons_of_mem _ z))
      have hne : a ≠ p := fun e => np (e ▸ z)
      refine ⟨(E2.ownF o1).1, ?_, ds a (List.mem_cons_of_mem _ z), hne⟩
      rw [upd_ne hne]; exact (E2.ownF o1).2
    · refine ⟨(n2 a z).1, ?_, fun y' => (n2 a z).2.2 ((ow a).mpr (.inl y')), ne a z⟩
      rw [upd_ne (ne a z)]; exact (n2 a z).2.1
  obtain ⟨fps3, E3, o3⟩ := EB.give (c := .ob C (putC f (enc v) (fs v))) (fpc := p :: fp2) (atG_upd hg) (.ob upd_same rp fun z => (fresh p z).2.2.2 rfl) (fun a ha => by
      rcases List.mem_cons.mp ha with z | z
      · subst z; exact ⟨Fp, by rw [upd_same]; simp⟩
      · exact ⟨(fresh a z).1, (fresh a z).2.1⟩) (fun a ha => by
      rcases List.mem_cons.mp ha with z | z
      · subst z; exact ds a (by simp)
      · exact (fresh a z).2.2.1)
  rw [updG_upd, hG v] at E3
  have hlen : vs.length < 1000 := by
    have := repCF_len rf
    have h9 := Nat.le_of_ble_eq_true hl
    omega
  refine ⟨p, _, dx, vs, rfl, hp', T.cls, n, hlen, k v hp F2 _ σ fps3 D E3 s (q.le (l.trans ⟨up.fr, fun a ob hn z => ?_, fun a hn z z' => up.nw a z z', fun a z => ?_⟩))⟩
  · have hne : a ≠ p := fun e => hn (.inr (e ▸ ownp))
    rw [upd_ne hne]
    exact up.hp a ob z
  · left
    rcases (o3 a).mp z with y' | y'
    · exact .inr ((ow a).mpr (.inl y'))
    · rcases List.mem_cons.mp y' with y' | y'
      · subst y'; exact .inr ownp
      · rcases sub a y' with y' | y'
        · exact .inr ((ow a).mpr (.inr (List.mem_cons_of_mem _ y')))
        · exact .inl y'
end
end Vs

/-! Methods asked of a class, tests that change own things, setdefault. -/
namespace Vs
open PySem PySem.Spec L2
section
variable {X : Cx} {K : PySem.W.Frag} {W : WX} {G : Env} {P : Program} {w : World} {mg : Str → Option Value} {base : Heap}
/-- C.m(e, ..), C an own class -/
theorem pe_clsm {CX : CXT} {x m : Str} {C f : Addr} {mc : Value} {k : Nat} {fd : FuncData} {ps : List Str} {sp : Sp} {E : XK} {e : Expr} {es : List Expr} {t : TA} {p apos pos' : Pos} {pl : Sem Bool} (hg : Gl X x) (hm : X.mg x = some (.ref C)) (r : ClRd X.K C mc) (c : PySem.W.findCls X.K (.ref C) mc m = some (.val (.ref f))) (kp : PySem.W.keepIn X.K (.ref f) = true)
    (F : FnOk X.prog X.w X.K X.mg X.base CX k f fd ps sp) (hr : Room k X.A) (hb : Binds X.K fd ps []) (hx : Passes CX X E) (ha : PA X (e :: es) t) (hdb : (x == ("__debug__" : Str)) = false := by decide)
    (hst : starEach (e :: es) X.env = (false, eval e X.env) :: starEach es X.env := by rfl) (hpl : (backTo pos' (starEach es X.env)).any (·.1) = false := by rfl)
    (ht : eval (.Call (.Attribute (.Name x p) m apos) (e :: es) [] pos') X.env = (do
      let ov ← eval (.Name x p) X.env
      standAt apos.atName
      let (f, first) ← holding [ov] (getMethod ov m pl)
      callWith pos' f first (backTo pos' (starEach (e :: es) X.env)) (backToKw pos' (keywordEach [] X.env))) := by rfl) :
    PE X (.Call (.Attribute (.Name x p) m apos) (e :: es) [] pos') (tCall sp [] E t) := by
  refine ⟨fun pins s σ H Q I h => ?_⟩
  refine PySem.W.methodCall_KW (pl := pl) (thn ((pe_glob hg hm (show RelV (.ref C) (.ref C) from rfl) hdb).run pins s σ H (fun v H1 => v = .ref C ∧ tCall sp [] E t σ H1 Q) I ⟨rfl, h⟩) fun u s1 ⟨y, H1, I1, rx, ex, q⟩ => ?_) ht
  subst ex
  obtain rfl : u = Value.ref C := rx
  refine PySem.W.method_cls I1.kIn r.ga (PySem.W.cls_value I1.kIn r.rd c (handed_of (v := V.ref f) rfl) ?_)
  refine PySem.W.callWith_K (h₀ := X.base) I1.ok.mod.kin kp (thn (ha.run pos' pins _ σ H1 _ (I1.tok (s1.toks + 1)) q) fun us s2 ⟨vs, H2, I2, rv, q2⟩ => ⟨I2.kIn, ?_⟩) hst hpl
  exact run_fn F hr hb .nil hx I2 rv q2
/-- C.m(e, ..), own things lent -/
theorem ev_clsm {B m : Str} {k n : Nat} {r : List Cell → Sum Cell Xc → List Cell → Prop} {p apos cpos : Pos} {es : List Expr} {e : Expr} {as : List Ag} {c : Cell} {outs : List Cell} {G' : Env} {pl : Sem Bool} (S : SupF K B m) (C : ∃ fd ps, FnOk P w K mg base (L2.CX P w) k (He.ma K (He.ga K B) m) fd ps (spB K n r) ∧ Binds K fd ps []) (gB : mg B = some (.ref (He.ga K B)))
    (hX : Of (one X) P w K mg base) (hr : Room k X.A) (hgB : Gl X B) (ha : EAB X K G (e :: es) as) (ok : AgOk G as) (hn : as.length = n) (hR : r (as.map Ag.cell) (.inl c) outs) (hG : outG G as outs = G')
    (hBd : (B == ("__debug__" : Str)) = false := by decide) (hs0 : starEach (e :: es) X.env = (false, eval e X.env) :: starEach es X.env := by rfl) (hpl : (backTo cpos (starEach es X.env)).any (·.1) = false := by rfl)
    (ht : eval (.Call (.Attribute (.Name B p) m apos) (e :: es) [] cpos) X.env = (do
      let ov ← eval (.Name B p) X.env
      standAt apos.atName
      let (f, first) ← holding [ov] (getMethod ov m pl)
      callWith cpos f first (backTo cpos (starEach (e :: es) X.env)) (backToKw cpos (keywordEach [] X.env))) := by rfl) : EV X K G (.Call (.Attribute (.Name B p) m apos) (e :: es) [] cpos) c G' := fun F H σ fps Q Eo q => by
  subst hG
  obtain ⟨fd, ps, h1, h3⟩ := C
  refine ⟨tCall (spB K n r) [] E0 (wpA (one X) (e :: es)), fun j => ?_, ha F H σ fps _ Eo fun F1 H1 vs u ra => ?_⟩
  · obtain ⟨e1, e2, e3, e4, e5⟩ := hX j
    subst e1 e2 e3 e4 e5
    exact pe_clsm (pl := pl) hgB gB S.rd S.at_ S.kp h1 hr h3 passL pa_w1 hBd hs0 hpl ht
  · rw [List.append_nil]
    exact lent_call Eo u ra ok hn hR q
end
section
variable {I : Type} {X : I → Cx} {K : PySem.W.Frag} {G : Env} {P : Program} {w : World} {mg : Str → Option Value} {base : Heap}
/-- C(e, ..) of data, a new own object -/
theorem en_make {C : Str} {k n : Nat} {r : List Cell → Sum Cell Xc → List Cell → Prop} {p pos : Pos} {e : Expr} {es : List Expr} {ds : List Dt} {fs : List (Str × Cell)} {outs : List Cell} (I : CalleeBI P w K mg base C k n r) (M : Mk K (He.ga K C) (He.ma K (He.ga K C) "__init__")) (gC : mg C = some (.ref (He.ga K C)))
    (hX : Of X P w K mg base) (hr : ∀ j, Room (k + 1) (X j).A) (hg : ∀ j, Gl (X j) C)
    (ha : EA X K G (e :: es) ds) (hn : ds.length + 1 = n) (hR : r (.ob C [] :: ds.map .fz) (.inl (.fz .non)) (.ob C fs :: outs)) (hdb : (C == ("__debug__" : Str)) = false := by decide) (he : ∀ j, starEach (e :: es) (X j).env = (false, eval e (X j).env) :: starEach es (X j).env := by intro _; rfl)
    (hpl : ∀ j, (backTo pos (starEach es (X j).env)).any (·.1) = false := by intro _; rfl) : EN X K G (.Call (.Name C p) (e :: es) [] pos) (.ob C fs) := fun F H σ fps Q Eo q => by
  obtain ⟨fd, ps, h1, h3⟩ := I.ex
  refine ⟨tMake (He.ga K C) (spB K n r) [] E0 (wpA X (e :: es)), fun j => ?_, ha F H σ fps _ Eo fun F1 H1 ws u rl => ?_⟩
  · obtain ⟨e1, e2, e3, e4, e5⟩ := hX j
    subst e1 e2 e3 e4 e5
    exact pe_make M h1 (hr j) (hg j) gC h3 .nil passL (pa_wp j) hdb (he j) (hpl j)
  · intro x dx nx ndx hne
    rw [List.append_nil]
    have fx : F1 x = none := u.sb.none nx
    have old : ∀ b o, H1 b = some o → (upd (upd H1 dx (.own x)) x (.ins (He.ga K C) dx [])) b = some o := fun b o z => by
      have n1 : b ≠ x := fun y => by rw [y, nx] at z; cases z
      have n2 : b ≠ dx := fun y => by rw [y, ndx] at z; cases z
      rw [upd_ne n1, upd_ne n2]; exact z
    have s1 : Sub F1 (upd (upd H1 dx (.own x)) x (.ins (He.ga K C) dx [])) := fun a o z => by
      rcases u.sb a o z with y | ⟨b, ob, y⟩
      · exact .inl (old _ _ y)
      · exact .inr ⟨b, ob, old _ _ y⟩
    have u2 : Up F1 H1 F1 (upd (upd H1 dx (.own x)) x (.ins (He.ga K C) dx [])) := ⟨Ex.refl _, old, fun _ z _ => z, s1⟩
    have u12 := u.trans u2
    have hx : (upd (upd H1 dx (.own x)) x (.ins (He.ga K C) dx [])) x ≠ none := by rw [upd_same]; simp
    refine ⟨F1, .ob C [] :: ds.map .fz, .inl (.fz .non), .ob C fs :: outs, [x] ++ [], s1, .cons (.ob upd_same .nil (by simp)) (RepCL.ofL rl) (fun a _ hb => nomatch hb), fun b hb => ?_, by rw [List.length_cons, List.length_map]; exact hn, hR, fun F' H' v fq fp' l s rc ro n1 n2 => ?_⟩
    · obtain rfl : b = x := by simpa using hb
      exact ⟨fx, hx⟩
    · obtain ⟨rfl, rn⟩ := rc.there
      cases rn
      refine ⟨rfl, ?_⟩
      cases ro with
      | cons r1 r2 dj =>
        rename_i fpa fqa
        have hxn : ∀ a, H a ≠ none → a ∉ [x] ++ [] := fun a z y => by
          obtain rfl : a = x := by simpa using y
          exact z (u.hp.free nx)
        refine q F' H' (.ref x) fpa ⟨u.fr.trans l.fr, fun a o z => ?_, fun a z z' => ?_, s⟩ r1 fun a ha => ⟨?_, (n2 a (List.mem_append_left _ ha)).1, (n2 a (List.mem_append_left _ ha)).2⟩
        · exact l.hp a o (hxn a (by rw [z]; simp)) (u12.hp a o z)
        · refine l.nw a (hxn a z') (u12.nw a z z') ?_
          cases q : H a with
          | none => exact absurd q z'
          | some o => rw [u12.hp a o q]; simp
        · rcases l.ow a (.inr (List.mem_append_left _ ha)) with y | y
          · obtain rfl : a = x := by simpa using y
            exact u.hp.free nx
          · exact u12.hp.free y
end
abbrev Zf (d : Dt) : Option Cell := some (.fz d)
end Vs

/-! Statements for printed proofs, with the cells behind written out. -/
namespace Vs
open PySem PySem.Spec L2
section
variable {X : Cx} {K : PySem.W.Frag} {W : WX} {sv : Sv} {G : Env} {rest : List Stmt} {o : Out} {pos : Pos}
theorem run_freezeQ {ss : List Stmt} {i : Nat} {π : List Nat} {c : Cell} {d : Dt} {G' : Env} (hg : atG G i π = some c) (hd : c.data = some d) (hG : updG G i π (.fz d) = G') (k : Run X K W sv ss G' o) : Run X K W sv ss G o := run_freezeP hg hd (hG ▸ k)
theorem run_asgQ {i : Nat} {x : Str} {e : Expr} {pos' : Pos} {c : Cell} {Gk : Env} (h : EV X K G e c G) (hN : X.N.Nodup) (hG : G.set i (some c) = Gk) (k : Run X K W sv rest Gk o)
    (hi : X.N[i]? = some x := by rfl) (hx : Loc X.env.scope x := by first | exact Or.inl rfl | exact Or.inr rfl) (hl : Nat.blt i G.length = true := by rfl) (hv : memN sv.ks i = false := by rfl)
    (hs : swapsWith e (some (.Name x pos')) pos.line X.env = pure false := by rfl) (hf : X.fn x = true ∨ X.env.scope.names.lookup x = some .local := by first | exact .inl rfl | exact .inr rfl | assumption) :
    Run X K W sv (.Assign [.Name x pos'] e pos :: rest) G o := run_asgE (B := Unit) () (fun _ => c) (fun _ => G) (fun _ => Gk) (fun _ => o) (fun _ => True) h trivial hN (fun _ => hG) (fun _ _ => k) hi hx hl hv hs hf rfl
/-- x += e, whole numbers -/
theorem run_augI {i : Nat} {x : Str} {e : Expr} {pos' : Pos} {a b : Int} {Gk : Env} (hg : G[i]? = some (some (.fz (.int a)))) (h : EX (one X) K G e (.int b)) (hN : X.N.Nodup) (hG : G.set i (some (.fz (.int (a + b)))) = Gk) (k : Run X K W sv rest Gk o)
    (hi : X.N[i]? = some x := by rfl) (hx : Loc X.env.scope x := by first | exact Or.inl rfl | exact Or.inr rfl) (hl : Nat.blt i G.length = true := by rfl) (hv : memN sv.ks i = false := by rfl)
    (hf : X.fn x = true ∨ X.env.scope.names.lookup x = some .local := by first | exact .inl rfl | exact .inr rfl | assumption) :
    Run X K W sv (.AugAssign (.Name x pos') .Add e pos :: rest) G o := fun F H σ fps D E s q => by
  obtain ⟨v, h1, r⟩ := E.ent i _ hg
  obtain ⟨_, r⟩ := r.there
  cases r
  refine ⟨tSeq (tAug i (wpE (one X) e) (ipI fun i j => i + j)) (wpSs X rest), pss_cons (ps_aug hN hi hx pe_w1 ip_add hf) pss_wp, _, h1, h F H σ fps _ E fun F1 H1 v2 u r2 => ?_⟩
  cases r2
  refine ⟨a, b, rfl, rfl, ?_⟩
  have E2 := (E.up u).set (i := i) (v := .int (a + b)) (fp := []) (Nat.blt_eq.mp hl) (.fz (.int (a + b))) (fun a ha => nomatch ha) fun a ha => nomatch ha
  rw [hG] at E2
  exact k F1 H1 _ _ D E2 (s.set hv) (q.le (u.leSet fun a ha => nomatch ha))
end
/-! ### dict.clear, list.extend -/
def rClrD : V → List V → Hp → VK → Prop := fun v ws H Q => ∃ (p : Addr) (ps : List (Key × V)), v = .ref p ∧ ws = [] ∧ H p = some (.dK ps) ∧ Q .non (upd H p (.dK []))
theorem clrD_ok {X : Cx} : MtR X "dict.clear" rClrD := by
  rintro pins s σ H x vs v us Q I rx rv ⟨p, ps, hx, hv, hp, hq⟩
  cases hx; cases hv
  cases (show v = Value.ref p from rx)
  cases rv.zero
  exact d_clear I hp fun t J => ⟨.non, _, J, rfl, hq⟩
def rExtendT : V → List V → Hp → VK → Prop := fun x vs H Q => ∃ l b xs zs, x = .ref l ∧ vs = [.ref b] ∧ H l = some (.lst xs) ∧ H b = some (.tup zs) ∧ xs.length + zs.length ≤ sizeLine ∧ Q .non (upd H l (.lst (xs ++ zs)))
set_option maxRecDepth 8000 in
theorem list_extend_tup (l : Addr) (items : Array Value) (n : Nat) (b : Addr) (items2 : Array Value) (n2 : Nat) (od : Option Addr) (osl : Array (Option Value)) (hs0 : ¬(!items.isEmpty && Builtin.List.listTooLong (items.size + items2.size)) = true) (hs1 : items.size ≤ sizeLine) (hs2 : items.size + items2.size ≤ sizeLine + 1) :
    Meets (Builtin.«list.extend» ⟨[.ref l, .ref b], []⟩) (fun _ R s => s.heap.get? l = some { cls := .type "list", dict := none, data := .seq items n, slots := #[] } ∧ s.heap.get? b = some { cls := .type "tuple", dict := od, data := .seq items2 n2, slots := osl } ∧ R (.ok (.ret Value.none)) { s with heap := s.heap.update l (Obj.mapSeq fun x => x ++ items2), toks := s.toks }) :=
  .of_wp fun prog w A R s h => by
    obtain ⟨hp, g, d, tk, os⟩ := s; obtain ⟨hl, hb, h⟩ := h; have f1 := AutoSeq1.idx_int; have f2 := AutoSeq1.sub_tuple_tuple; have f3 := AutoSeq1.sub_list_list; have f4 := AutoSeq1.sub_tuple_list; have f5 := AutoSeq1.sub_list_tuple
    have hz' : (items ++ items2).size ≤ sizeLine + 1 := by rw [Array.size_append]; exact hs2
    wp_walk using (wpAny_updateSeq hl rfl (hz := hs1) (_hz' := hz')), AutoSeq1.wpAny_loadPart' hl, AutoSeq1.wpAny_loadPart' hb; exact ⟨_, rfl, h⟩
theorem mt_extendT {X : Cx} : MtM X "list.extend" rExtendT := by
  intro pins s σ H x vs v us Q I rx rv h
  obtain ⟨l, b, xs, zs, rfl, rfl, hH, hB, hz, q⟩ := h
  cases rx
  obtain ⟨u, rfl, ru⟩ := rv.one
  cases ru
  obtain ⟨z, its, n, r, hl, e⟩ := I.lstM hH
  obtain ⟨z2, its2, r2, ⟨oc, od, oda, osl⟩, e2, hc2, n2, hd2⟩ := I.hok b _ hB
  dsimp only at hc2 hd2
  subst hc2 hd2
  have hl2 := Paired.length r2
  have hsz : its.toArray.size + its2.toArray.size ≤ sizeLine := by rw [List.size_toArray, List.size_toArray]; omega
  have hlong : ¬ (!its.toArray.isEmpty && Builtin.List.listTooLong (its.toArray.size + its2.toArray.size)) = true := by
    rw [notLongL hsz, Bool.and_false]
    exact Bool.false_ne_true
  refine call_meets PySem.F.slot_list_extend ⟨_, e, rfl⟩ PySem.F.entry_list_extend (PySem.F.args_list_extend_2 _ _)
    (list_extend_tup l its.toArray n b its2.toArray n2 od osl hlong (by rw [List.size_toArray]; omega) (by omega)) ⟨e, e2, ?_⟩
  refine ⟨.non, _, I.lset (its' := its ++ its2) hH e (by simp) (r.append r2) ?_, rfl, q⟩
  rw [List.length_append]
  omega
section
variable {X : Cx} {K : PySem.W.Frag} {W : WX} {sv : Sv} {G : Env} {rest : List Stmt} {o : Out} {pos : Pos}
/-- d.clear(), d an own dict -/
theorem run_clearD {i : Nat} {π : List Nat} {t : Expr} {apos cpos : Pos} {ds : List (Key × Dt)} {G' : Env} (hK : X.K = K) (ht : EP (one X) K G t i π) (hg : atG G i π = some (.od ds)) (hG : updG G i π (.od []) = G') (k : Run X K W sv rest G' o)
    (hbase : attributeBase t "clear" X.env (eval t X.env) = eval t X.env := by rfl) (hline : (apos.endLine == cpos.line) = true := by rfl)
    (hsw : swapsWith (.Call (.Attribute t "clear" apos) [] [] cpos) none pos.line X.env = pure false := by rfl) :
    Run X K W sv (.Expr (.Call (.Attribute t "clear" apos) [] [] cpos) pos :: rest) G o := fun F H σ fps D Eo s q => by
  subst hG
  refine ⟨tSeq (tDrop (tBM0 X.K "dict" rClrD (wpE (one X) t))) (wpSs X rest), pss_cons (ps_expr (pe_bm0 PySem.F.plainAttrs_dict PySem.F.slot_dict_clear PySem.F.type_dict_clear clrD_ok pe_w1 hbase hline) hsw) pss_wp, ht F H σ fps _ Eo fun F0 H0 v u0 l0 => ?_⟩
  obtain ⟨fpc0, r0, _⟩ := (Eo.up u0).loc hg l0
  obtain ⟨p, vs, rfl, _, h2, l, r, nd⟩ := r0.od_inv
  obtain ⟨fps2, E2, le2⟩ := (Eo.up u0).set1 (fq := []) hg l0 (fun fpc r a => by obtain ⟨p', _, e1, e2, _⟩ := r.od_inv; cases e1; rw [e2]; simp) (.dK []) (.od []) (.od upd_same (Nat.zero_le _) .nil List.nodup_nil)
  exact ⟨.inr (.inr (.inl ⟨rfl, .inl ⟨vs, h2⟩⟩)), p, vs, rfl, rfl, h2, k F0 _ σ fps2 D E2 s (q.le (u0.le.trans le2))⟩
/-- xs.extend(e), e a list / a tuple -/
theorem run_extend {A : Type} {i : Nat} {π : List Nat} {t e : Expr} {apos cpos : Pos} {xs ys : List A} {G' : Env} (f : A → Dt) (hK : X.K = K) (ht : EP (one X) K G t i π) (hg : atG G i π = some (.ol (xs.map f))) (h : EX (one X) K G e (.lst (ys.map f))) (hn : xs.length + ys.length ≤ big)
    (hG : updG G i π (.ol ((xs ++ ys).map f)) = G') (k : Run X K W sv rest G' o)
    (hbase : attributeBase t "extend" X.env (eval t X.env) = eval t X.env := by rfl)
    (hfew : ((backTo cpos (starEach [e] X.env)).all (fun x => !x.1) && (backToKw cpos (keywordEach [] X.env)).all (fun x => x.1.isSome) && decide (([e] : List Expr).length + ([] : List Keyword).length + (if ([] : List Keyword).isEmpty then 0 else 1) < 30)) = true := by rfl)
    (hline : (apos.endLine == cpos.line) = true := by rfl) (hs : starEach [e] X.env = [(false, eval e X.env)] := by rfl) (hplain : (backTo cpos (starEach ([] : List Expr) X.env)).any (·.1) = false := by rfl)
    (hsw : swapsWith (.Call (.Attribute t "extend" apos) [e] [] cpos) none pos.line X.env = pure false := by rfl) :
    Run X K W sv (.Expr (.Call (.Attribute t "extend" apos) [e] [] cpos) pos :: rest) G o := fun F H σ fps D Eo s q => by
  subst hG
  refine ⟨tSeq (tDrop (tBM X.K "list" rExtend (wpE (one X) t) (tCons (wpE (one X) e) tNil))) (wpSs X rest), pss_cons (ps_expr (pe_bm PySem.F.plainAttrs_list PySem.F.slot_list_extend PySem.F.type_list_extend mt_extend pe_w1 (pa_cons pe_w1 pa_nil hs) hbase hfew hline hs hplain) hsw) pss_wp, ht F H σ fps _ Eo fun F0 H0 v u0 l0 => ?_⟩
  obtain ⟨fpc0, r0, _⟩ := (Eo.up u0).loc hg l0
  obtain ⟨p, vs, rfl, _, h2, l, r⟩ := r0.ol_inv
  refine ⟨.inl ⟨rfl, vs, SqL.of h2⟩, h F0 H0 σ fps _ (Eo.up u0) fun F1 H1 w u r1 => ?_⟩
  have E1 := (Eo.up u0).up u
  cases r1 with
  | lst hb lb rb =>
    rename_i b ws
    have hlen : vs.length + ws.length ≤ big := by rw [r.len, rb.len, List.length_map, List.length_map]; exact hn
    refine ⟨p, b, vs, ws, rfl, rfl, u.hp _ _ h2, u.sb.lst hb, Nat.le_trans hlen big_line, ?_⟩
    obtain ⟨fps2, E2, le2⟩ := E1.set1 (fq := []) hg (l0.mono u.hp) (fun fpc r a => by obtain ⟨p', _, e1, e2, _⟩ := r.ol_inv; cases e1; rw [e2]; simp) (.lst (vs ++ ws)) (.ol ((xs ++ ys).map f)) (.ol upd_same (by rw [List.length_append]; exact hlen) (by rw [List.map_append]; exact (r.mono u.fr).append rb))
    exact k F1 _ σ fps2 D E2 s (q.le ((u0.trans u).le.trans le2))
theorem run_extendT {A : Type} {i : Nat} {π : List Nat} {t e : Expr} {apos cpos : Pos} {xs ys : List A} {G' : Env} (f : A → Dt) (hK : X.K = K) (ht : EP (one X) K G t i π) (hg : atG G i π = some (.ol (xs.map f))) (h : EX (one X) K G e (.tup (ys.map f))) (hn : xs.length + ys.length ≤ big)
    (hG : updG G i π (.ol ((xs ++ ys).map f)) = G') (k : Run X K W sv rest G' o)
    (hbase : attributeBase t "extend" X.env (eval t X.env) = eval t X.env := by rfl)
    (hfew : ((backTo cpos (starEach [e] X.env)).all (fun x => !x.1) && (backToKw cpos (keywordEach [] X.env)).all (fun x => x.1.isSome) && decide (([e] : List Expr).length + ([] : List Keyword).length + (if ([] : List Keyword).isEmpty then 0 else 1) < 30)) = true := by rfl)
    (hline : (apos.endLine == cpos.line) = true := by rfl) (hs : starEach [e] X.env = [(false, eval e X.env)] := by rfl) (hplain : (backTo cpos (starEach ([] : List Expr) X.env)).any (·.1) = false := by rfl)
    (hsw : swapsWith (.Call (.Attribute t "extend" apos) [e] [] cpos) none pos.line X.env = pure false := by rfl) :
    Run X K W sv (.Expr (.Call (.Attribute t "extend" apos) [e] [] cpos) pos :: rest) G o := fun F H σ fps D Eo s q => by
  subst hG
  refine ⟨tSeq (tDrop (tBM X.K "list" rExtendT (wpE (one X) t) (tCons (wpE (one X) e) tNil))) (wpSs X rest), pss_cons (ps_expr (pe_bm PySem.F.plainAttrs_list PySem.F.slot_list_extend PySem.F.type_list_extend mt_extendT pe_w1 (pa_cons pe_w1 pa_nil hs) hbase hfew hline hs hplain) hsw) pss_wp, ht F H σ fps _ Eo fun F0 H0 v u0 l0 => ?_⟩
  obtain ⟨fpc0, r0, _⟩ := (Eo.up u0).loc hg l0
  obtain ⟨p, vs, rfl, _, h2, l, r⟩ := r0.ol_inv
  refine ⟨.inl ⟨rfl, vs, SqL.of h2⟩, h F0 H0 σ fps _ (Eo.up u0) fun F1 H1 w u r1 => ?_⟩
  have E1 := (Eo.up u0).up u
  cases r1 with
  | tup hb lb rb =>
    rename_i b ws
    have hlen : vs.length + ws.length ≤ big := by rw [r.len, rb.len, List.length_map, List.length_map]; exact hn
    refine ⟨p, b, vs, ws, rfl, rfl, u.hp _ _ h2, u.sb.tup hb, Nat.le_trans hlen big_line, ?_⟩
    obtain ⟨fps2, E2, le2⟩ := E1.set1 (fq := []) hg (l0.mono u.hp) (fun fpc r a => by obtain ⟨p', _, e1, e2, _⟩ := r.ol_inv; cases e1; rw [e2]; simp) (.lst (vs ++ ws)) (.ol ((xs ++ ys).map f)) (.ol upd_same (by rw [List.length_append]; exact hlen) (by rw [List.map_append]; exact (r.mono u.fr).append rb))
    exact k F1 _ σ fps2 D E2 s (q.le ((u0.trans u).le.trans le2))
end
end Vs

/-! Plain laws that many laws' mathematics share. -/
namespace Vs
open PySem PySem.Spec L2 TL PySem.StrLaws
theorem mod_nn (x : Int) {n : Int} (h : 0 < n) : 0 ≤ x % n ∧ x % n < n := ⟨Int.emod_nonneg x (by omega), Int.emod_lt_of_pos x h⟩
theorem smallS {n : Nat} (h : n ≤ 900000) : n ≤ bigS := h
theorem smallL {n : Nat} (h : n ≤ 1000000) : n ≤ big := h
theorem sum_len {B : Nat} : ∀ {xs : List Str}, (∀ x ∈ xs, x.length ≤ B) → (xs.map (·.length)).sum ≤ B * xs.length
  | [], _ => by simp
  | x :: xs, h => by
    have h1 := h x (by simp)
    have h2 := sum_len (xs := xs) fun y hy => h y (List.mem_cons_of_mem _ hy)
    simp only [List.map_cons, List.sum_cons, List.length_cons, Nat.mul_succ]
    omega
theorem joinOk_of {B : Nat} {s : Str} {xs : List Str} (h : ∀ x ∈ xs, x.length ≤ B) (hb : B * xs.length + xs.length * s.length ≤ 900000) : joinOk s xs := by
  unfold joinOk
  have := sum_len h
  show _ ≤ 900000
  omega
theorem join_le {B : Nat} {s : Str} {xs : List Str} (h : ∀ x ∈ xs, x.length ≤ B) : (Txt.join s xs).length ≤ B * xs.length + xs.length * s.length := by
  rw [join_eq, len_tl, tl_join]
  obtain ⟨h1, _⟩ := joinL_parts (tl s) (xs.map tl)
  rw [List.length_map] at h1
  have h2 := sum_len h
  have e : ((xs.map tl).map List.length).sum = (xs.map (·.length)).sum := by
    rw [List.map_map]
    congr 1
  rw [e] at h1
  have e2 : s.length = (tl s).length := len_tl s
  rw [e2]
  omega
theorem join_nil (s : Str) : Txt.join s [] = Str.ofString "" := by rw [join_eq]; exact ext_tl (by rw [tl_join, tl_nil]; rfl)
theorem join_ne {s x : Str} {xs : List Str} (h : 1 ≤ x.length) : (Txt.join s (x :: xs) == Str.ofString "") = false := by
  refine beq_eq_false_iff_ne.mpr fun e => ?_
  have e2 := congrArg tl e
  rw [join_eq, tl_join, tl_nil] at e2
  rw [len_tl] at h
  cases xs with
  | nil =>
    have : tl x = [] := e2
    rw [this] at h; cases h
  | cons y ys =>
    have e3 : tl x ++ (tl s ++ joinL (tl s) ((y :: ys).map tl)) = [] := e2
    have := (List.append_eq_nil_iff.mp e3).1
    rw [this] at h; cases h
theorem cut1 {A : Type} (a : A) (l : List A) : cut (a :: l) (some (1 : Int)) none = l := by
  show ((a :: l).drop (min 1 (l.length + 1))).take (l.length + 1 - min 1 (l.length + 1)) = l
  rw [Nat.min_eq_left (by omega)]
  simp
theorem it0 {A : Type} [Inhabited A] (x : A) (l : List A) : itm (x :: l) (0 : Int) = x := by
  rw [itm_nn (by decide) (by rw [List.length_cons]; omega)]
  rfl
theorem in0 {A : Type} (x : A) (l : List A) : inI (x :: l) (0 : Int) = true := inI_nn (by decide) (by rw [List.length_cons]; omega)
theorem lenS (s : String) {n : Nat} (h : (s.toList).length = n) : (Str.ofString s).length = n := ch_len s h
theorem stT_le {p : Str × Str × List Str} (h : St p) : 1 ≤ (stT p).length ∧ (stT p).length ≤ 28 := by
  obtain ⟨s, n, ps⟩ := p
  have h1 := sd_len h.sd
  have h2 := bare_len h.wd h.two h.pl
  obtain ⟨c, l, e, _⟩ := bare_head (ps := ps) h.wd
  have h3 : (bare n ps).length = l.length + 1 := by rw [len_tl, e]; rfl
  unfold stT
  rw [len_app]
  show 1 ≤ s.length + (bare n ps).length ∧ s.length + (bare n ps).length ≤ 28
  have h2' : (bare n ps).length ≤ 27 := h2
  have h1' : s.length ≤ 1 := h1
  omega
end Vs

/-! list(reversed(..)), dicts compared, counted, listed. -/
namespace RT
open PySem PySem.Spec PyProof.Rows L2
section
variable {prog : Program} {w : World} {A : Around} {E : Value → Shared → Prop} {s : Shared}
theorem lists_rev {it l S : Addr} {items : Array Value} {R : Result → Shared → Prop} {c₀ : Nat} (hh : A.handled = none) (hit : s.heap.IsRevIter it l ((items.size : Int) - 1)) (hl : s.heap.IsList l items) (hne : l ≠ it) (hSi : S ≠ it) (hSl : S ≠ l) (hn : items.size ≤ sizeLine)
    (hS : s.heap.get? S = some { cls := .type "list", data := .seq #[] c₀ })
    (hR : ∀ h' tk acc' c', (∀ b o, b ≠ S → b ≠ it → s.heap.get? b = some o → h'.get? b = some o) → h'.get? S = some { cls := .type "list", dict := none, data := .seq acc' c', slots := #[] } → ItemsOf (fun i v => items[items.size - 1 - i]? = some v) acc' items.size → R (.ok (.ret .none)) { s with heap := h', toks := tk }) :
    wpAny (model prog w) A.in1 (Builtin.List.listExtendWith (.ref S) (.ref it) .none)
      (fun fin s' => match fin with | .done f => R (.ok f) s' | .again c' => c'.quiet = true ∧ codeAny (model prog w) A c' R s') (fun e s' => R (.error e) s') s := by
  have W := (Walks.listRev (prog := prog) (w := w) (A := A.in1) hh it l hne items).toS
  have hSf : S ∉ [it, l] := by simp only [List.mem_cons, List.not_mem_nil, or_false, not_or]; exact ⟨hSi, hSl⟩
  have hT : s.TypeIs (.ref it) "list_reverseiterator" := hit.typeIs
  have h1 : Builtin.List.listSameRef (.ref S) (.ref it) = false := by simp [Builtin.List.listSameRef, hSi]
  unfold Builtin.List.listExtendWith
  refine wpAny_bind (wpAny_typeOf hT ?_)
  rw [if_neg (by rw [h1]; decide)]
  refine wpAny_bind (wpAny_pyIter_revIter hit ?_)
  refine wpAny_bind (wpAny_holding ?_)
  unfold Builtin.List.listLengthHint
  refine wpAny_bind (wpAny_specialOf hT nolen_lri ?_)
  show wpAny _ A.in1 (specialOf (Value.ref it) (Str.ofString "__length_hint__") >>= _) _ _ _
  refine wpAny_bind (wpAny_specialOf hT hint_lri ?_)
  generalize hid : ("list_reverseiterator.__length_hint__" : String) = id0
  wp_delta
  rw [show splitId id0 = some ("list_reverseiterator", "__length_hint__") from by subst hid; decide +kernel]
  subst hid
  refine wpAny_bind (wpAny_isInstance (b := true) hT (by rw [isSubtype_type]; kernel_rfl) ?_)
  refine wpAny_pure ?_
  rw [if_neg (by decide)]
  have e0 : ((items.size : Nat) : Int) - 1 - ((0 : Nat) : Int) = (items.size : Int) - 1 := by omega
  refine wpAny_pure ⟨plainId_quiet F.plain_extend_loop _, codeAny_extend_loopS W hn _ hSf _ items.size 0 _ _ _ rfl (Nat.zero_le _) ⟨Nat.zero_le _, by rw [e0]; exact hit, hl⟩ hS (ItemsOf.nil _) fun s' acc' c' hm hS' hacc => ?_⟩
  rw [Moved.eq_with hm]
  refine hR s'.heap s'.toks acc' c' (fun b o hb hb2 e => hm.heap b o (fun hmem => ?_) e) hS' hacc
  rcases List.mem_cons.mp hmem with e' | hmem
  · exact hb e'
  · exact hb2 (List.mem_singleton.mp hmem)
theorem call_list_rev {it l : Addr} {items : Array Value} {Q : Value → Shared → Prop} (hh : A.handled = none) (hit : s.heap.IsRevIter it l ((items.size : Int) - 1)) (hl : s.heap.IsList l items) (hne : l ≠ it) (hn : items.size ≤ sizeLine)
    (hQ : ∀ (h' : Heap) (tk : Nat) (acc : Array Value) (c' : Nat), (∀ b o, b ≠ it → s.heap.get? b = some o → h'.get? b = some o) → h'.get? s.heap.objs.size = some { cls := .type "list", dict := none, data := .seq acc c', slots := #[] } → ItemsOf (fun i v => items[items.size - 1 - i]? = some v) acc items.size →
      Q (.ref s.heap.objs.size) { s with heap := h', toks := tk }) :
    wpAny (model prog w) A (call (.type "list") [.ref it]) Q E s := by
  refine callType_codes (Q₁ := fun obj s₁ => obj = .ref s.heap.objs.size ∧ s₁ = { s with heap := s.heap.push { cls := .type "list", data := .seq #[] } }) PySem.F.called_list (PySem.F.typeCall_list_1 _) PySem.F.entry_list_init
    (code_list_new _ ⟨rfl, rfl⟩) fun obj s₁ h₁ => ?_
  obtain ⟨rfl, rfl⟩ := h₁
  have hS : (s.heap.push { cls := .type "list", data := .seq #[] }).get? s.heap.objs.size = some { cls := .type "list", data := .seq #[] } := Heap.get?_push_size _ rfl
  obtain ⟨oi, hoi, _⟩ := id hit
  obtain ⟨ol, hol, _⟩ := id hl
  have hSi : s.heap.objs.size ≠ it := Nat.ne_of_gt (Heap.lt_size hoi)
  have hSl : s.heap.objs.size ≠ l := Nat.ne_of_gt (Heap.lt_size hol)
  refine ⟨⟨_, hS, rfl⟩, PySem.F.args_list_init_2 _ _, ?_⟩
  show wpAny _ _ (do let old ← Builtin.List.listItems (.ref s.heap.objs.size); Builtin.List.listUpdate (.ref s.heap.objs.size) (fun _ => #[]); letGo old.toList.reverse; Builtin.List.listExtendWith (.ref s.heap.objs.size) (.ref it) .none) _ _ _
  refine wpAny_bind ?_
  unfold Builtin.List.listItems
  refine wpAny_bind (wpAny_seqItems hS rfl (wpAny_pure ?_))
  show wpAny _ _ (updateSeq s.heap.objs.size (fun _ => #[]) >>= fun _ => letGo (#[] : Array Value).toList.reverse >>= fun _ => Builtin.List.listExtendWith (.ref s.heap.objs.size) (.ref it) .none) _ _ _
  refine wpAny_bind (wpAny_updateSeq hS rfl ?_)
  have hS₂ := Heap.get?_update_self (Obj.mapSeq (fun _ => (#[] : Array Value))) hS rfl
  have oth : ∀ b o, b ≠ s.heap.objs.size → s.heap.get? b = some o → ((s.heap.push { cls := .type "list", data := .seq #[] }).update s.heap.objs.size (Obj.mapSeq (fun _ => (#[] : Array Value)))).get? b = some o :=
    fun b o hb e => (Heap.get?_update_other _ _ (Ne.symm hb)).trans (Heap.get?_push_of_some _ e)
  refine wpAny_bind (wpAny_letGo ?_)
  refine lists_rev hh (hit.at fun o e => oth it o (Ne.symm hSi) e) (by obtain ⟨o, ho, r⟩ := hl; exact ⟨o, oth l o (Ne.symm hSl) ho, r⟩) hne hSi hSl hn hS₂ fun h' tk acc' c' hk hS' hacc => ?_
  exact ⟨rfl, hQ h' tk acc' c' (fun b o hb e => hk b o (Nat.ne_of_lt (Heap.lt_size e)) hb (oth b o (Nat.ne_of_lt (Heap.lt_size e)) e)) hS' hacc⟩
end
def tListRev (K : PySem.W.Frag) (te : TE) : TE := fun σ H Q => te σ H fun v H1 => ∃ (a : Addr) (xs : List V), v = .ref a ∧ SqL K H1 a xs ∧ ∀ q, H1 q = none → Q (.ref q) (upd H1 q (.lst xs.reverse))
section
variable {X : Cx}
theorem pe_listRev {e : Expr} {te : TE} {p p2 pos pos2 : Pos} (hc : X.calm = true) (hg : Gl X "list") (hm : X.mg "list" = none) (hg2 : Gl X "reversed") (hm2 : X.mg "reversed" = none) (he : PE X e te)
    (hs : starEach [e] X.env = (false, eval e X.env) :: starEach [] X.env := by rfl)
    (hs2 : starEach [.Call (.Name "reversed" p2) [e] [] pos2] X.env = (false, eval (.Call (.Name "reversed" p2) [e] [] pos2) X.env) :: starEach [] X.env := by rfl) :
    PE X (.Call (.Name "list" p) [.Call (.Name "reversed" p2) [e] [] pos2] [] pos) (tListRev X.K te) := by
  refine ⟨fun pins s σ H Q I h => ?_⟩
  refine Call_ (ld_blt I hg hm (u := .type "list") (by decide +kernel) (PyProof.Rows.callWith_type1 (args_cons (Call_ (ld_blt I hg2 hm2 PyProof.Rows.boot_reversed (PyProof.Rows.callWith_type1 (args_cons (thn (he.run pins s σ H _ I h) fun u s1 ⟨v, H1, I1, r1, q1⟩ => args_nil ?_) hs) hs rfl))) hs2) hs2 rfl))
  obtain ⟨a, xs, ev, hq, q⟩ := q1
  subst ev
  obtain rfl : u = Value.ref a := r1
  obtain ⟨its, rv, p', hz⟩ := I1.list hq
  refine call_reversed_list p'.isList (args_nil ?_)
  have k0 : ∀ b o, s1.heap.get? b = some o → (s1.heap.push (revObj a ((its.toArray.size : Int) - 1))).get? b = some o := fun b o e => Heap.get?_push_of_some _ e
  have I2 : Inv X pins σ H1 { s1 with heap := s1.heap.push (revObj a ((its.toArray.size : Int) - 1)) } := I1.kept (t' := s1.toks) k0
  obtain ⟨f0, f1, f2, f3, f4, f5⟩ := I1.fpOk (H' := H1) (b := s1.heap.objs.size) (Nat.le_refl _) (I1.hok.fresh (Nat.le_refl _))
  have hl := p'.isList
  obtain ⟨ol, hol, _⟩ := id hl
  have hne : a ≠ s1.heap.objs.size := Nat.ne_of_lt (Heap.lt_size hol)
  have hn : its.toArray.size ≤ sizeLine := by rw [List.size_toArray, ← rv.length]; exact hz
  refine call_list_rev (s := { s1 with heap := s1.heap.push (revObj a ((its.toArray.size : Int) - 1)) }) (I1.ok.hd hc) ⟨_, Heap.get?_push_size _ rfl, rfl, rfl⟩ (hl.push _) hne hn fun h' tk acc c' hk hS' hi => ?_
  have n0 : H1 s1.heap.objs.size = none := I1.hok.fresh (Nat.le_refl _)
  have hsz : (s1.heap.push (revObj a ((its.toArray.size : Int) - 1))).objs.size = s1.heap.objs.size + 1 := by simp [Heap.push]
  have n1 : H1 (s1.heap.push (revObj a ((its.toArray.size : Int) - 1))).objs.size = none := I2.hok.fresh (Nat.le_refl _)
  have hne2 : s1.heap.objs.size ≠ (s1.heap.push (revObj a ((its.toArray.size : Int) - 1))).objs.size := by rw [hsz]; omega
  have I3 := I2.laid (t' := tk) (a := (s1.heap.push (revObj a ((its.toArray.size : Int) - 1))).objs.size) (o := .lst xs.reverse) (h' := (s1.heap.push (revObj a ((its.toArray.size : Int) - 1))).push { cls := .type "list", dict := none, data := .seq acc c', slots := #[] }) (fun c o e => Heap.get?_push_of_some _ e) (Nat.le_refl _)
    (show ObjOk X.prog X.w _ _ _ (.lst xs.reverse) from ⟨by rw [List.length_reverse]; exact hz, acc.toList, c', vals_rev rv hi, by rw [Array.toArray_toList]; exact Heap.get?_push_size _ rfl⟩)
  obtain ⟨g0, g1, g2, g3, g4, g5⟩ := I1.fpOk (H' := upd H1 (s1.heap.push (revObj a ((its.toArray.size : Int) - 1))).objs.size (.lst xs.reverse)) (b := s1.heap.objs.size) (Nat.le_refl _) (by rw [upd_ne hne2]; exact n0)
  have I4 := I3.turned (h' := h') (t' := tk) (it := s1.heap.objs.size) (fun b o hb e => by
    by_cases hbs : b = (s1.heap.push (revObj a ((its.toArray.size : Int) - 1))).objs.size
    · subst hbs
      rw [Heap.get?_push_size _ rfl] at e
      cases e
      exact hS'
    · refine hk b o hb ?_
      rw [Heap.get?_push_ne _ _ _ hbs] at e
      exact e) g0 g1 g3 g4 g5
  exact ⟨.ref _, _, I4, rfl, q _ n1⟩
end
end RT

/-! Dicts: counted, listed, compared, walked. list(reversed(..)). -/
namespace Vs
open PySem PySem.Spec L2
theorem RepL.reverse {K : PySem.W.Frag} {F : Hp} : ∀ {vs : List V} {ds : List Dt}, RepL K F vs ds → RepL K F vs.reverse ds.reverse
  | _, _, .nil => .nil
  | _, _, .cons h r => by
    rw [List.reverse_cons, List.reverse_cons]
    exact r.reverse.append (.cons h .nil)
theorem call_lenDR {X : Cx} : CallR X (.builtin "len") (fun xs H Q => ∃ a kvs, xs = [V.ref a] ∧ Rd H a (.dK kvs) ∧ Q (.int kvs.length) H) := by
  intro pins s σ H xs us Q I r h
  obtain ⟨a, kvs, rfl, ha, q⟩ := h
  obtain ⟨u, rfl, ru⟩ := vals1 r
  cases ru
  exact d_len I ha fun t s' I' => ⟨.int kvs.length, H, I', ⟨t, rfl⟩, q⟩
section
variable {I : Type} {X : I → Cx} {K : PySem.W.Frag} {G : Env}
/-- list(reversed(e)) -/
theorem en_listRev {e : Expr} {p p2 pos pos2 : Pos} {ds : List Dt} (hK : ∀ j, (X j).K = K) (hc : ∀ j, (X j).calm = true) (h : ES X K G e false ds) (hg : ∀ j, Gl (X j) "list") (hm : ∀ j, (X j).mg "list" = none) (hg2 : ∀ j, Gl (X j) "reversed") (hm2 : ∀ j, (X j).mg "reversed" = none)
    (hs : ∀ j, starEach [e] (X j).env = (false, eval e (X j).env) :: starEach [] (X j).env := by intro _; rfl)
    (hs2 : ∀ j, starEach [.Call (.Name "reversed" p2) [e] [] pos2] (X j).env = (false, eval (.Call (.Name "reversed" p2) [e] [] pos2) (X j).env) :: starEach [] (X j).env := by intro _; rfl) : EN X K G (.Call (.Name "list" p) [.Call (.Name "reversed" p2) [e] [] pos2] [] pos) (.ol ds.reverse) := fun F H σ fps Q k q =>
  ⟨RT.tListRev K (wpE X e), fun j => hK j ▸ RT.pe_listRev (hc j) (hg j) (hm j) (hg2 j) (hm2 j) (pe_wp j) (hs j) (hs2 j), h F H σ fps _ k fun F1 H1 p vs u r l rl => by
    refine ⟨p, vs, rfl, by simpa using r, fun D hD => ?_⟩
    have n0 : H D = none := u.hp.free hD
    refine q F1 (upd H1 D (.lst vs.reverse)) (.ref D) [D] (u.trans (Up.layH u.sb hD)) (.ol upd_same (by rw [List.length_reverse]; exact l) rl.reverse) fun a ha => ?_
    obtain rfl : a = D := by simpa using ha
    exact ⟨n0, u.sb.none hD, by rw [upd_same]; simp⟩⟩
theorem x_listRev {A : Type} {e : Expr} {p p2 pos pos2 : Pos} {xs : List A} (f : A → Dt) (hK : ∀ j, (X j).K = K) (hc : ∀ j, (X j).calm = true) (h : ES X K G e false (xs.map f)) (hg : ∀ j, Gl (X j) "list") (hm : ∀ j, (X j).mg "list" = none) (hg2 : ∀ j, Gl (X j) "reversed") (hm2 : ∀ j, (X j).mg "reversed" = none)
    (hs : ∀ j, starEach [e] (X j).env = (false, eval e (X j).env) :: starEach [] (X j).env := by intro _; rfl)
    (hs2 : ∀ j, starEach [.Call (.Name "reversed" p2) [e] [] pos2] (X j).env = (false, eval (.Call (.Name "reversed" p2) [e] [] pos2) (X j).env) :: starEach [] (X j).env := by intro _; rfl) : EN X K G (.Call (.Name "list" p) [.Call (.Name "reversed" p2) [e] [] pos2] [] pos) (.ol (xs.reverse.map f)) := by
  rw [List.map_reverse]
  exact en_listRev hK hc h hg hm hg2 hm2 hs hs2
/-- len(d) -/
theorem x_lenD {κ A : Type} {g : κ → Key} {f : A → Dt} {e : Expr} {p pos : Pos} {kvs : List (κ × A)} (h : ED X K G e (encK g f kvs)) (hg : ∀ j, Gl (X j) "len") (hm : ∀ j, (X j).mg "len" = none)
    (he : ∀ j, starEach [e] (X j).env = [(false, eval e (X j).env)] := by intro _; rfl) : EX X K G (.Call (.Name "len" p) [e] [] pos) (.int kvs.length) := fun F H σ fps Q k q =>
  ⟨tCB (fun xs H Q => ∃ a kvs, xs = [V.ref a] ∧ Rd H a (.dK kvs) ∧ Q (.int kvs.length) H) (tCons (wpE X e) tNil), fun j => pe_callB call_lenDR (hg j) (hm j) PySem.boot_len (pa_cons (pe_wp j) pa_nil (he j)) (by decide) (by decide) (he j) rfl, h F H σ fps _ k fun F1 H1 p vs u r l rl nd =>
    ⟨p, vs, rfl, r, by rw [repK_len rl]; exact q F1 H1 _ u (.int _)⟩⟩
/-- list(d) -/
theorem kOk_Rep {K : PySem.W.Frag} {F : Hp} {k : Key} (h : kOk k = true) : Rep K F (kV k) (keyD k) := by
  cases k with
  | inl i => exact .int i
  | inr s => exact .str s h
theorem repK_keysL {κ A : Type} {g : κ → Key} {f : A → Dt} {F : Hp} : ∀ {kvs : List (κ × A)} {vs : List (Key × V)}, RepK K F vs (encK g f kvs) → RepL K F (vs.map fun kv => kV kv.1) (kvs.map fun z => keyD (g z.1))
  | [], _, .nil => .nil
  | z :: r, _, .cons o h t => .cons (kOk_Rep o) (repK_keysL t)
theorem repK_valsL {κ A : Type} {g : κ → Key} {f : A → Dt} {F : Hp} : ∀ {kvs : List (κ × A)} {vs : List (Key × V)}, RepK K F vs (encK g f kvs) → RepL K F (vs.map (·.2)) (kvs.map fun z => f z.2)
  | [], _, .nil => .nil
  | z :: r, _, .cons o h t => .cons h (repK_valsL t)
theorem en_listD {κ A : Type} {g : κ → Key} {f : A → Dt} {e : Expr} {p pos : Pos} {kvs : List (κ × A)} (hc : ∀ j, (X j).calm = true) (h : ED X K G e (encK g f kvs)) (hg : ∀ j, Gl (X j) "list") (hm : ∀ j, (X j).mg "list" = none)
    (he : ∀ j, starEach [e] (X j).env = [(false, eval e (X j).env)] := by intro _; rfl) : EN X K G (.Call (.Name "list" p) [e] [] pos) (.ol (kvs.map fun z => keyD (g z.1))) := fun F H σ fps Q k q =>
  ⟨tCB (fun xs H Q => ∃ (a : Addr) (kvs : List (Key × V)), xs = [.ref a] ∧ Rd H a (.dK kvs) ∧ ∀ p, H p = none → Q (.ref p) (upd H p (.lst (kvs.map fun kv => kV kv.1)))) (tCons (wpE X e) tNil), fun j => pe_callTy (call_listD (hc j)) (hg j) (hm j) (by decide +kernel) (pa_cons (pe_wp j) pa_nil (he j)) (by decide) (by decide) (he j) rfl, h F H σ fps _ k fun F1 H1 p vs u r l rl nd => by
    refine ⟨p, vs, rfl, r, fun D hD => ?_⟩
    have n0 : H D = none := u.hp.free hD
    refine q F1 (upd H1 D (.lst (vs.map fun kv => kV kv.1))) (.ref D) [D] (u.trans (Up.layH u.sb hD)) (.ol upd_same (by rw [List.length_map]; exact l) (repK_keysL rl)) fun a ha => ?_
    obtain rfl : a = D := by simpa using ha
    exact ⟨n0, u.sb.none hD, by rw [upd_same]; simp⟩⟩
end

/-! ### dicts compared -/
def dAll {κ A : Type} [DecidableEq κ] [BEq A] (ys : List (κ × A)) : List (κ × A) → Bool
  | [] => true
  | p :: r => match gets ys p.1 with
    | none => false
    | some y => (p.2 == y) && dAll ys r
/-- the same keys with the same data, in whatever order -/
def dEq {κ A : Type} [DecidableEq κ] [BEq A] (xs ys : List (κ × A)) : Bool := (xs.length == ys.length) && dAll ys xs
section
variable {X : Cx} {pins : List (Addr × Obj)} {σ : L2.St} {H F : Hp} {s : Shared} {κ A : Type} [DecidableEq κ] [BEq A] {g : κ → Key} {f : A → Dt} {n : Nat}
theorem hitsG (I : Inv X pins σ H s) (sb : Sub F H) (hgi : ∀ a b, g a = g b → a = b) (q : EqT f n) (hn : n ≤ 60) (hu : X.A.units + 64 < cLine) {ys : List (κ × A)} {ws : List (Key × V)} {wb : List (Key × Value)} (ry : RepK X.K F ws (encK g f ys)) (rb : KV ws wb) :
    ∀ {xs : List (κ × A)} {vs : List (Key × V)} {va : List (Key × Value)}, RepK X.K F vs (encK g f xs) → KV vs va → PySem.W.KeqHits X.A.in1 s wb va (dAll ys xs) := by
  intro xs
  induction xs with
  | nil =>
    intro vs va r k
    cases r
    cases k
    exact .nil
  | cons p r ih =>
    intro vs va rx k
    cases rx with
    | cons o h t =>
      rename_i v vs
      unfold KV at k
      cases k with
      | cons hk kt =>
        rename_i b vb
        obtain ⟨k1, k2⟩ := hk
        obtain ⟨bk, bv⟩ := b
        dsimp only at k1 k2
        subst k1
        have rv := rb.val (g p.1)
        unfold dAll
        rcases repK_get hgi p.1 ry with ⟨e1, e2⟩ | ⟨a, w, e1, e2, e3⟩
        · rw [e1]
          rw [e2] at rv
          refine .miss ?_
          cases z : valueAt wb (g p.1) with
          | none => rfl
          | some y => rw [z] at rv; exact rv.elim
        · rw [e1]
          rw [e2] at rv
          obtain ⟨y, hy, ry'⟩ := rv.some_of
          refine .hit hy ?_ (ih t kt)
          obtain ⟨as, r1⟩ := Dp.reads I _ _ _ (h.dp sb (q.fl _)) k2
          obtain ⟨bs, r2⟩ := Dp.reads I _ _ _ (e3.dp sb (q.fl _)) ry'
          have := SeqAt.eqAt_reads _ _ X.A.in1 s _ _ as bs r1 r2 (h.lay (q.fl _)) (e3.lay (q.fl _)) (by
            have d1 := q.dp p.2
            have h2 : min (f p.2).py.depth (f a).py.depth ≤ (f p.2).py.depth := Nat.min_le_left _ _
            show X.A.units + 1 + _ < cLine
            omega)
          rw [q.eq] at this
          exact this
theorem op_eqG (K : PySem.W.Frag) (hK : X.K = K) (hgi : ∀ a b, g a = g b → a = b) (q : EqT f n) (hn : n ≤ 60) (hu : X.A.units + 64 < cLine) : OpR X (compareOp .Eq) (fun x y H Q => ∃ (F : Hp) (a b : Addr) (vs ws : List (Key × V)) (xs ys : List (κ × A)), x = .ref a ∧ y = .ref b ∧ Sub F H ∧ Rd H a (.dK vs) ∧ Rd H b (.dK ws) ∧ RepK K F vs (encK g f xs) ∧ RepK K F ws (encK g f ys) ∧ Q (.bl (dEq xs ys)) H) := by
  intro pins s σ H x y v u Q I rx ry h
  obtain ⟨F, a, b, vs, ws, xs, ys, rfl, rfl, sb, ea, eb, r1, r2, qq⟩ := h
  subst hK
  obtain rfl : v = Value.ref a := rx
  obtain rfl : u = Value.ref b := ry
  obtain ⟨_, ya, va, ra, da⟩ := dk_rd I.hok ea
  obtain ⟨_, yb, vb, rb, db⟩ := dk_rd I.hok eb
  refine PySem.W.keq_eq (knd := mixKind X.prog X.w) (r := dAll ys xs) ya yb da db (by omega) (fun _ => hitsG I sb hgi q hn hu r2 rb r1 ra) (fin_bl I qq ?_)
  have l1 : va.length = xs.length := by rw [← ra.length, repK_len r1]
  have l2 : vb.length = ys.length := by rw [← rb.length, repK_len r2]
  rw [l1, l2]; rfl
theorem op_neG (K : PySem.W.Frag) (hK : X.K = K) (hgi : ∀ a b, g a = g b → a = b) (q : EqT f n) (hn : n ≤ 60) (hu : X.A.units + 64 < cLine) : OpR X (compareOp .NotEq) (fun x y H Q => ∃ (F : Hp) (a b : Addr) (vs ws : List (Key × V)) (xs ys : List (κ × A)), x = .ref a ∧ y = .ref b ∧ Sub F H ∧ Rd H a (.dK vs) ∧ Rd H b (.dK ws) ∧ RepK K F vs (encK g f xs) ∧ RepK K F ws (encK g f ys) ∧ Q (.bl (!dEq xs ys)) H) := by
  intro pins s σ H x y v u Q I rx ry h
  obtain ⟨F, a, b, vs, ws, xs, ys, rfl, rfl, sb, ea, eb, r1, r2, qq⟩ := h
  subst hK
  obtain rfl : v = Value.ref a := rx
  obtain rfl : u = Value.ref b := ry
  obtain ⟨_, ya, va, ra, da⟩ := dk_rd I.hok ea
  obtain ⟨_, yb, vb, rb, db⟩ := dk_rd I.hok eb
  refine PySem.W.keq_ne (knd := mixKind X.prog X.w) (r := dAll ys xs) ya yb da db (by omega) (fun _ => hitsG I sb hgi q hn hu r2 rb r1 ra) (fin_bl I qq ?_)
  have l1 : va.length = xs.length := by rw [← ra.length, repK_len r1]
  have l2 : vb.length = ys.length := by rw [← rb.length, repK_len r2]
  rw [l1, l2]; rfl
end
section
variable {I : Type} {X : I → Cx} {K : PySem.W.Frag} {G : Env} {κ A : Type} [DecidableEq κ] [BEq A] {g : κ → Key} {f : A → Dt} {n : Nat} {a b : Expr} {pos : Pos} {xs ys : List (κ × A)}
theorem x_eqG (hgi : ∀ a b, g a = g b → a = b) (q : EqT f n) (hn : n ≤ 60) (hK : ∀ j, (X j).K = K) (hu : ∀ j, (X j).A.units + 64 < cLine) (ha : ED X K G a (encK g f xs)) (hb : ED X K G b (encK g f ys)) (hm : behindInMarks .Eq b = false := by rfl) : EX X K G (.Compare a [.Eq] [b] pos) (.bl (dEq xs ys)) := fun F H σ fps Q E k =>
  ⟨tOp _ (wpE X a) (wpE X b), fun j => pe_cmpR (op_eqG K (hK j) hgi q hn (hu j)) (pe_wp j) (pe_wp j) hm, ha F H σ fps _ E fun F1 H1 p vs u r l rl _ => hb F1 H1 σ fps _ (E.up u) fun F2 H2 p2 ws u2 r2 l2 rl2 _ =>
    ⟨F2, p, p2, vs, ws, xs, ys, rfl, rfl, u2.sb, u2.rd r, r2, rl.mono u2.fr, rl2, k F2 H2 _ (u.trans u2) (.bl _)⟩⟩
theorem x_neG (hgi : ∀ a b, g a = g b → a = b) (q : EqT f n) (hn : n ≤ 60) (hK : ∀ j, (X j).K = K) (hu : ∀ j, (X j).A.units + 64 < cLine) (ha : ED X K G a (encK g f xs)) (hb : ED X K G b (encK g f ys)) (hm : behindInMarks .NotEq b = false := by rfl) : EX X K G (.Compare a [.NotEq] [b] pos) (.bl (!dEq xs ys)) := fun F H σ fps Q E k =>
  ⟨tOp _ (wpE X a) (wpE X b), fun j => pe_cmpR (op_neG K (hK j) hgi q hn (hu j)) (pe_wp j) (pe_wp j) hm, ha F H σ fps _ E fun F1 H1 p vs u r l rl _ => hb F1 H1 σ fps _ (E.up u) fun F2 H2 p2 ws u2 r2 l2 rl2 _ =>
    ⟨F2, p, p2, vs, ws, xs, ys, rfl, rfl, u2.sb, u2.rd r, r2, rl.mono u2.fr, rl2, k F2 H2 _ (u.trans u2) (.bl _)⟩⟩
theorem b_eqG (hgi : ∀ a b, g a = g b → a = b) (q : EqT f n) (hn : n ≤ 60) (hK : ∀ j, (X j).K = K) (hu : ∀ j, (X j).A.units + 64 < cLine) (ha : ED X K G a (encK g f xs)) (hb : ED X K G b (encK g f ys)) (hm : behindInMarks .Eq b = false := by rfl) : EB X K G (.Compare a [.Eq] [b] pos) (dEq xs ys) := fun F H σ fps Q E k =>
  ⟨tTest (tOp _ (wpE X a) (wpE X b)), fun j => pt_cmpR (op_eqG K (hK j) hgi q hn (hu j)) (pe_wp j) (pe_wp j) hm, ha F H σ fps _ E fun F1 H1 p vs u r l rl _ => hb F1 H1 σ fps _ (E.up u) fun F2 H2 p2 ws u2 r2 l2 rl2 _ =>
    ⟨F2, p, p2, vs, ws, xs, ys, rfl, rfl, u2.sb, u2.rd r, r2, rl.mono u2.fr, rl2, _, rfl, k F2 H2 (u.trans u2)⟩⟩
theorem b_neG (hgi : ∀ a b, g a = g b → a = b) (q : EqT f n) (hn : n ≤ 60) (hK : ∀ j, (X j).K = K) (hu : ∀ j, (X j).A.units + 64 < cLine) (ha : ED X K G a (encK g f xs)) (hb : ED X K G b (encK g f ys)) (hm : behindInMarks .NotEq b = false := by rfl) : EB X K G (.Compare a [.NotEq] [b] pos) (!dEq xs ys) := fun F H σ fps Q E k =>
  ⟨tTest (tOp _ (wpE X a) (wpE X b)), fun j => pt_cmpR (op_neG K (hK j) hgi q hn (hu j)) (pe_wp j) (pe_wp j) hm, ha F H σ fps _ E fun F1 H1 p vs u r l rl _ => hb F1 H1 σ fps _ (E.up u) fun F2 H2 p2 ws u2 r2 l2 rl2 _ =>
    ⟨F2, p, p2, vs, ws, xs, ys, rfl, rfl, u2.sb, u2.rd r, r2, rl.mono u2.fr, rl2, _, rfl, k F2 H2 (u.trans u2)⟩⟩
end
end Vs

/-! A list whose very items are known (Cell.fl): listed anew, compared with its like. -/
namespace Vs
open PySem PySem.Spec L2
theorem rep_fr {K : PySem.W.Frag} {F : Hp} {v : V} {d : Dt} (r : Rep K F v d) : flatB v = true ∨ ∃ a, v = .ref a := by
  cases r with
  | non => exact .inl rfl
  | bl _ => exact .inl rfl
  | int _ => exact .inl rfl
  | str _ _ => exact .inl rfl
  | lst _ _ _ => exact .inr ⟨_, rfl⟩
  | tup _ _ _ => exact .inr ⟨_, rfl⟩
  | dic _ _ _ _ => exact .inr ⟨_, rfl⟩
  | dit _ _ _ _ => exact .inr ⟨_, rfl⟩
  | ins _ _ => exact .inr ⟨_, rfl⟩
  | scr _ _ _ => exact .inr ⟨_, rfl⟩
theorem repL_fr {K : PySem.W.Frag} {F : Hp} : ∀ {vs : List V} {ds : List Dt}, RepL K F vs ds → ∀ v ∈ vs, flatB v = true ∨ ∃ a, v = .ref a
  | _, _, .nil, _, h => nomatch h
  | _, _, .cons r rs, v, h => by
    rcases List.mem_cons.mp h with rfl | h
    · exact rep_fr r
    · exact repL_fr rs v h
theorem vals_same {A : Around} {s : Shared} : ∀ {vs : List V} {us ws : List Value}, Vals vs us → Vals vs ws → (∀ v ∈ vs, flatB v = true ∨ ∃ a, v = .ref a) → ∀ j (h1 : j < us.length) (h2 : j < ws.length), SeqAt.EqAt A s us[j] ws[j] true := by
  intro vs
  induction vs with
  | nil => intro us ws r1 r2 _ j h1 _; cases r1; exact absurd h1 (Nat.not_lt_zero j)
  | cons v vs ih =>
    intro us ws r1 r2 hv j h1 h2
    cases r1 with
    | cons a1 b1 =>
      cases r2 with
      | cons a2 b2 =>
        cases j with
        | zero =>
          rcases hv v (by simp) with f | ⟨a, rfl⟩
          · exact eqAt_same a1 a2 f
          · cases (show _ = Value.ref a from a1)
            cases (show _ = Value.ref a from a2)
            exact SeqAt.EqAt.same _
        | succ j => exact ih b1 b2 (fun w hw => hv w (List.mem_cons_of_mem _ hw)) j (Nat.lt_of_succ_lt_succ h1) (Nat.lt_of_succ_lt_succ h2)
theorem op_neSame {X : Cx} (K : PySem.W.Frag) (hK : X.K = K) (hu : X.A.units + 64 < cLine) : OpR X (compareOp .NotEq) (fun x y H Q => ∃ a b vs, x = .ref a ∧ y = .ref b ∧ SqL K H a vs ∧ SqL K H b vs ∧ (∀ v ∈ vs, flatB v = true ∨ ∃ a, v = .ref a) ∧ Q (.bl false) H) := by
  intro pins s σ H x y v u Q I rx ry h
  obtain ⟨a, b, vs, rfl, rfl, ea, eb, hv, q⟩ := h
  subst hK
  obtain rfl : v = Value.ref a := rx
  obtain rfl : u = Value.ref b := ry
  obtain ⟨us, r1, p1, _⟩ := I.list (a := a) (xs := vs) ea
  obtain ⟨ws, r2, p2, _⟩ := I.list (a := b) (xs := vs) eb
  have hsz : us.toArray.size = ws.toArray.size := by
    rw [List.size_toArray, List.size_toArray, ← r1.length, ← r2.length]
  refine SeqAt.RcNeAt.lists (e := fun _ => true) p1.isList p2.isList hsz (by omega) (fun j h1 h2 => ?_) _ _ _ _ ?_
  · have k := vals_same (A := X.A.in1) (s := s) r1 r2 hv j (by simpa using h1) (by simpa using h2)
    simpa using k
  · rw [show ((List.range us.toArray.size).all fun _ => true) = true from List.all_eq_true.mpr fun _ _ => rfl]
    exact ⟨.bl false, H, I, rfl, q⟩
theorem op_eqSame {X : Cx} (K : PySem.W.Frag) (hK : X.K = K) (hu : X.A.units + 64 < cLine) : OpR X (compareOp .Eq) (fun x y H Q => ∃ a b vs, x = .ref a ∧ y = .ref b ∧ SqL K H a vs ∧ SqL K H b vs ∧ (∀ v ∈ vs, flatB v = true ∨ ∃ a, v = .ref a) ∧ Q (.bl true) H) := by
  intro pins s σ H x y v u Q I rx ry h
  obtain ⟨a, b, vs, rfl, rfl, ea, eb, hv, q⟩ := h
  subst hK
  obtain rfl : v = Value.ref a := rx
  obtain rfl : u = Value.ref b := ry
  obtain ⟨us, r1, p1, _⟩ := I.list (a := a) (xs := vs) ea
  obtain ⟨ws, r2, p2, _⟩ := I.list (a := b) (xs := vs) eb
  have hsz : us.toArray.size = ws.toArray.size := by
    rw [List.size_toArray, List.size_toArray, ← r1.length, ← r2.length]
  refine SeqAt.RcAt.lists (e := fun _ => true) p1.isList p2.isList hsz (by omega) (fun j h1 h2 => ?_) _ _ _ _ ?_
  · have k := vals_same (A := X.A.in1) (s := s) r1 r2 hv j (by simpa using h1) (by simpa using h2)
    simpa using k
  · rw [show ((List.range us.toArray.size).all fun _ => true) = true from List.all_eq_true.mpr fun _ _ => rfl]
    exact ⟨.bl true, H, I, rfl, q⟩
section
variable {I : Type} {X : I → Cx} {K : PySem.W.Frag} {G : Env}
/-- such a name's data -/
theorem xvf (i : Nat) {x : Str} {pos : Pos} {vs : List V} {ds : List Dt} (hg : G[i]? = some (some (.fl vs ds))) (hN : ∀ j, (X j).N[i]? = some x := by intro _; rfl) (hv : ∀ j, Vis (X j).env.scope x := by intro _; first | exact Or.inl rfl | exact Or.inr (Or.inl rfl) | exact Or.inr (Or.inr rfl))
    (hd : (x == ("__debug__" : Str)) = false := by decide) (hcd : (x == ("__classdict__" : Str)) = false := by decide) : EX X K G (.Name x pos) (.lst ds) := fun F H σ fps Q e q => by
  obtain ⟨v, h1, h2⟩ := e.ent i _ hg
  obtain ⟨a, rfl, _, h, l, r⟩ := h2.fl_inv
  exact ⟨tVar i, fun j => pe_var (hN j) (hv j) hd hcd, _, h1, q F H _ (Up.refl e.sub) (.lst h l r)⟩
theorem en_listF (i : Nat) {x : Str} {p p1 pos : Pos} {vs : List V} {ds : List Dt} (hg : G[i]? = some (some (.fl vs ds))) (hK : ∀ j, (X j).K = K) (hgl : ∀ j, Gl (X j) "list") (hm : ∀ j, (X j).mg "list" = none) (hN : ∀ j, (X j).N[i]? = some x := by intro _; rfl) (hv : ∀ j, Vis (X j).env.scope x := by intro _; first | exact Or.inl rfl | exact Or.inr (Or.inl rfl) | exact Or.inr (Or.inr rfl))
    (hd : (x == ("__debug__" : Str)) = false := by decide) (hcd : (x == ("__classdict__" : Str)) = false := by decide)
    (he : ∀ j, starEach [.Name x p1] (X j).env = [(false, eval (.Name x p1) (X j).env)] := by intro _; rfl) : EN X K G (.Call (.Name "list" p) [.Name x p1] [] pos) (.fl vs ds) := fun F H σ fps Q e q => by
  obtain ⟨v, h1, h2⟩ := e.ent i _ hg
  obtain ⟨a, rfl, _, h, l, r⟩ := h2.fl_inv
  · refine ⟨tCB (fun xs H Q => ∃ p ys, xs = [V.ref p] ∧ (SqL K H p ys ∨ SqT K H p ys) ∧ ∀ l, H l = none → Q (.ref l) (upd H l (.lst ys))) (tCons (tVar i) tNil), fun j => hK j ▸ pe_callTy call_list_of (hgl j) (hm j) (by decide +kernel) (pa_cons (pe_var (hN j) (hv j) hd hcd) pa_nil (he j)) (by decide) (by decide) (he j) rfl, ?_⟩
    refine ⟨_, h1, a, vs, rfl, .inl (SqL.of (e.sub.lst h)), fun D hD => ?_⟩
    exact q (upd F D (.lst vs)) (upd H D (.lst vs)) (.ref D) [] (Up.lay e.sub hD) (.fl upd_same l (r.mono (Ex.new (e.sub.none hD)))) fun a ha => nomatch ha
theorem x_neSame (i j : Nat) (hK : ∀ j, (X j).K = K) {x y : Str} {p1 p2 pos : Pos} {vs : List V} {ds es : List Dt} (hg : G[i]? = some (some (.fl vs ds))) (hg2 : G[j]? = some (some (.fl vs es))) (hu : ∀ j, (X j).A.units + 64 < cLine) (hN : ∀ j, (X j).N[i]? = some x := by intro _; rfl) (hv : ∀ j, Vis (X j).env.scope x := by intro _; first | exact Or.inl rfl | exact Or.inr (Or.inl rfl) | exact Or.inr (Or.inr rfl)) (hN2 : ∀ k, (X k).N[j]? = some y := by intro _; rfl) (hv2 : ∀ j, Vis (X j).env.scope y := by intro _; first | exact Or.inl rfl | exact Or.inr (Or.inl rfl) | exact Or.inr (Or.inr rfl))
    (hd : (x == ("__debug__" : Str)) = false := by decide) (hcd : (x == ("__classdict__" : Str)) = false := by decide) (hd2 : (y == ("__debug__" : Str)) = false := by decide) (hcd2 : (y == ("__classdict__" : Str)) = false := by decide) (hm : behindInMarks .NotEq (.Name y p2) = false := by rfl) : EX X K G (.Compare (.Name x p1) [.NotEq] [.Name y p2] pos) (.bl false) := fun F H σ fps Q e q => by
  obtain ⟨v, h1, h2⟩ := e.ent i _ hg
  obtain ⟨w, k1, k2⟩ := e.ent j _ hg2
  obtain ⟨a, rfl, _, h, l, r⟩ := h2.fl_inv
  obtain ⟨b, rfl, _, h', l', r'⟩ := k2.fl_inv
  exact ⟨tOp _ (tVar i) (tVar j), fun k => pe_cmpR (op_neSame K (hK k) (hu k)) (pe_var (hN k) (hv k) hd hcd) (pe_var (hN2 k) (hv2 k) hd2 hcd2) hm, _, h1, _, k1, a, b, vs, rfl, rfl, SqL.of (e.sub.lst h), SqL.of (e.sub.lst h'), repL_fr r, q F H _ (Up.refl e.sub) (.bl false)⟩
theorem x_eqSame (i j : Nat) (hK : ∀ j, (X j).K = K) {x y : Str} {p1 p2 pos : Pos} {vs : List V} {ds es : List Dt} (hg : G[i]? = some (some (.fl vs ds))) (hg2 : G[j]? = some (some (.fl vs es))) (hu : ∀ j, (X j).A.units + 64 < cLine) (hN : ∀ j, (X j).N[i]? = some x := by intro _; rfl) (hv : ∀ j, Vis (X j).env.scope x := by intro _; first | exact Or.inl rfl | exact Or.inr (Or.inl rfl) | exact Or.inr (Or.inr rfl)) (hN2 : ∀ k, (X k).N[j]? = some y := by intro _; rfl) (hv2 : ∀ j, Vis (X j).env.scope y := by intro _; first | exact Or.inl rfl | exact Or.inr (Or.inl rfl) | exact Or.inr (Or.inr rfl))
    (hd : (x == ("__debug__" : Str)) = false := by decide) (hcd : (x == ("__classdict__" : Str)) = false := by decide) (hd2 : (y == ("__debug__" : Str)) = false := by decide) (hcd2 : (y == ("__classdict__" : Str)) = false := by decide) (hm : behindInMarks .Eq (.Name y p2) = false := by rfl) : EX X K G (.Compare (.Name x p1) [.Eq] [.Name y p2] pos) (.bl true) := fun F H σ fps Q e q => by
  obtain ⟨v, h1, h2⟩ := e.ent i _ hg
  obtain ⟨w, k1, k2⟩ := e.ent j _ hg2
  obtain ⟨a, rfl, _, h, l, r⟩ := h2.fl_inv
  obtain ⟨b, rfl, _, h', l', r'⟩ := k2.fl_inv
  exact ⟨tOp _ (tVar i) (tVar j), fun k => pe_cmpR (op_eqSame K (hK k) (hu k)) (pe_var (hN k) (hv k) hd hcd) (pe_var (hN2 k) (hv2 k) hd2 hcd2) hm, _, h1, _, k1, a, b, vs, rfl, rfl, SqL.of (e.sub.lst h), SqL.of (e.sub.lst h'), repL_fr r, q F H _ (Up.refl e.sub) (.bl true)⟩
theorem b_neSame (i j : Nat) (hK : ∀ j, (X j).K = K) {x y : Str} {p1 p2 pos : Pos} {vs : List V} {ds es : List Dt} (hg : G[i]? = some (some (.fl vs ds))) (hg2 : G[j]? = some (some (.fl vs es))) (hu : ∀ j, (X j).A.units + 64 < cLine) (hN : ∀ j, (X j).N[i]? = some x := by intro _; rfl) (hv : ∀ j, Vis (X j).env.scope x := by intro _; first | exact Or.inl rfl | exact Or.inr (Or.inl rfl) | exact Or.inr (Or.inr rfl)) (hN2 : ∀ k, (X k).N[j]? = some y := by intro _; rfl) (hv2 : ∀ j, Vis (X j).env.scope y := by intro _; first | exact Or.inl rfl | exact Or.inr (Or.inl rfl) | exact Or.inr (Or.inr rfl))
    (hd : (x == ("__debug__" : Str)) = false := by decide) (hcd : (x == ("__classdict__" : Str)) = false := by decide) (hd2 : (y == ("__debug__" : Str)) = false := by decide) (hcd2 : (y == ("__classdict__" : Str)) = false := by decide) (hm : behindInMarks .NotEq (.Name y p2) = false := by rfl) : EB X K G (.Compare (.Name x p1) [.NotEq] [.Name y p2] pos) false := fun F H σ fps Q e q => by
  obtain ⟨v, h1, h2⟩ := e.ent i _ hg
  obtain ⟨w, k1, k2⟩ := e.ent j _ hg2
  obtain ⟨a, rfl, _, h, l, r⟩ := h2.fl_inv
  obtain ⟨b, rfl, _, h', l', r'⟩ := k2.fl_inv
  exact ⟨tTest (tOp _ (tVar i) (tVar j)), fun k => pt_cmpR (op_neSame K (hK k) (hu k)) (pe_var (hN k) (hv k) hd hcd) (pe_var (hN2 k) (hv2 k) hd2 hcd2) hm, _, h1, _, k1, a, b, vs, rfl, rfl, SqL.of (e.sub.lst h), SqL.of (e.sub.lst h'), repL_fr r, _, rfl, q F H (Up.refl e.sub)⟩
theorem b_eqSame (i j : Nat) (hK : ∀ j, (X j).K = K) {x y : Str} {p1 p2 pos : Pos} {vs : List V} {ds es : List Dt} (hg : G[i]? = some (some (.fl vs ds))) (hg2 : G[j]? = some (some (.fl vs es))) (hu : ∀ j, (X j).A.units + 64 < cLine) (hN : ∀ j, (X j).N[i]? = some x := by intro _; rfl) (hv : ∀ j, Vis (X j).env.scope x := by intro _; first | exact Or.inl rfl | exact Or.inr (Or.inl rfl) | exact Or.inr (Or.inr rfl)) (hN2 : ∀ k, (X k).N[j]? = some y := by intro _; rfl) (hv2 : ∀ j, Vis (X j).env.scope y := by intro _; first | exact Or.inl rfl | exact Or.inr (Or.inl rfl) | exact Or.inr (Or.inr rfl))
    (hd : (x == ("__debug__" : Str)) = false := by decide) (hcd : (x == ("__classdict__" : Str)) = false := by decide) (hd2 : (y == ("__debug__" : Str)) = false := by decide) (hcd2 : (y == ("__classdict__" : Str)) = false := by decide) (hm : behindInMarks .Eq (.Name y p2) = false := by rfl) : EB X K G (.Compare (.Name x p1) [.Eq] [.Name y p2] pos) true := fun F H σ fps Q e q => by
  obtain ⟨v, h1, h2⟩ := e.ent i _ hg
  obtain ⟨w, k1, k2⟩ := e.ent j _ hg2
  obtain ⟨a, rfl, _, h, l, r⟩ := h2.fl_inv
  obtain ⟨b, rfl, _, h', l', r'⟩ := k2.fl_inv
  exact ⟨tTest (tOp _ (tVar i) (tVar j)), fun k => pt_cmpR (op_eqSame K (hK k) (hu k)) (pe_var (hN k) (hv k) hd hcd) (pe_var (hN2 k) (hv2 k) hd2 hcd2) hm, _, h1, _, k1, a, b, vs, rfl, rfl, SqL.of (e.sub.lst h), SqL.of (e.sub.lst h'), repL_fr r, _, rfl, q F H (Up.refl e.sub)⟩
end
section
variable {X : Cx} {K : PySem.W.Frag} {W : WX} {sv : Sv} {G : Env} {ss : List Stmt} {o : Out}
/-- a frozen list's very items -/
theorem run_pin {i : Nat} {ds : List Dt} (Gf : List V → Env) (hg : G[i]? = some (some (.fz (.lst ds)))) (hG : ∀ vs, G.set i (some (.fl vs ds)) = Gf vs) (k : ∀ vs, Run X K W sv ss (Gf vs) o) : Run X K W sv ss G o := fun F H σ fps D E s q => by
  obtain ⟨v, h1, h2⟩ := E.ent i _ hg
  obtain ⟨hf, r⟩ := h2.there
  cases r with
  | @lst a vs _ h l r =>
    refine k vs F H σ fps D ?_ s q
    rw [← hG]
    refine ⟨E.sub, by rw [E.len, List.length_set], fun j c hc => ?_, E.own, E.dis⟩
    by_cases e : j = i
    · subst e
      rw [List.getElem?_set_self (List.getElem?_eq_some_iff.mp hg).1] at hc
      cases hc
      exact ⟨_, h1, by rw [hf]; exact .fl h l r⟩
    · rw [List.getElem?_set_ne (Ne.symm e)] at hc
      exact E.ent j c hc
end
end Vs

/-! A dict is walked: it is locked meanwhile. -/
namespace Vs
open PySem PySem.Spec L2
/-- the dict that the name's slot holds is locked -/
def Lck (i : Nat) (F H : Hp) (σ : L2.St) : Prop := ∃ a o vs, σ[i]? = some (some (V.ref a)) ∧ F a = some (.dK vs) ∧ H a = some (.frz o (.dK vs))
section
variable {X : Cx} {K : PySem.W.Frag} {G : Env} {i : Nat}
theorem EnvOk.lock {F H : Hp} {σ : L2.St} {fps : Nat → List Addr} {a : Addr} {vs : List (Key × V)} {od : Obj} (Eo : EnvOk K F H σ G fps) (ha : F a = some (.dK vs)) : EnvOk K F (upd H a (.frz od (.dK vs))) σ G fps := by
  have ne : ∀ j b, b ∈ fps j → b ≠ a := fun j b hb z => by subst z; rw [(Eo.own j b hb).1] at ha; cases ha
  refine ⟨fun b u hb => ?_, Eo.len, fun j c hc => ?_, fun j b hb => ?_, Eo.dis⟩
  · by_cases z : b = a
    · subst z; rw [ha] at hb; cases hb; exact .inr ⟨.inl ⟨_, rfl⟩, od, upd_same⟩
    · rcases Eo.sub b u hb with y | ⟨c, o, y⟩
      · exact .inl (by rw [upd_ne z]; exact y)
      · exact .inr ⟨c, o, by rw [upd_ne z]; exact y⟩
  · obtain ⟨w, a1, a2⟩ := Eo.ent j c hc
    exact ⟨w, a1, a2.mono (Ex.refl F) fun b hb o y => by rw [upd_ne (ne j b hb)]; exact y⟩
  · exact ⟨(Eo.own j b hb).1, by rw [upd_ne (ne j b hb)]; exact (Eo.own j b hb).2⟩
theorem ENL.unlock {e : Expr} {c : Cell} {ds : List (Key × Dt)} (h : ENL (Lck i) (one X) K G e c) (hg : G[i]? = some (some (.fz (.dic ds)))) : EN (one X) K G e c := fun F H σ fps Q Eo q => by
  obtain ⟨v, h1, h2⟩ := Eo.ent i _ hg
  obtain ⟨hf, r⟩ := h2.there
  cases r with
  | @dic a vs _ ha l rk nd =>
    rcases Eo.sub a _ ha with hH | ⟨_, o, hH⟩
    · refine ⟨tLockE (wpE (one X) e), fun _ => pe_lock pe_w1, a, .dK vs, hH, trivial, fun od => ?_⟩
      refine h F _ σ fps _ (Eo.lock ha) ⟨a, od, vs, h1, ha, upd_same⟩ fun F1 H1 w fp u r1 n => ?_
      have hk : H1 a = some (.frz od (.dK vs)) := u.hp a _ upd_same
      have fa : F1 a = some (.dK vs) := u.fr a _ ha
      have na : ∀ b, F1 b = none → b ≠ a := fun b y z => by subst z; rw [fa] at y; cases y
      refine ⟨hk, q F1 _ w fp ⟨u.fr, fun b o y => ?_, fun b y y' => ?_, fun b o y => ?_⟩ (r1.mono (Ex.refl _) fun b hb o y => by rw [upd_ne (na b (n b hb).2.1)]; exact y) fun b hb => ?_⟩
      · by_cases z : b = a
        · subst z; rw [hH] at y; cases y; exact upd_same
        · rw [upd_ne z]; exact u.hp b o (by rw [upd_ne z]; exact y)
      · have z : b ≠ a := fun z => by subst z; rw [ha] at y; cases y
        exact u.nw b y (by rw [upd_ne z]; exact y')
      · by_cases z : b = a
        · subst z; rw [fa] at y; cases y; exact .inl upd_same
        · rcases u.sb b o y with k | ⟨c, o', k⟩
          · exact .inl (by rw [upd_ne z]; exact k)
          · exact .inr ⟨c, o', by rw [upd_ne z]; exact k⟩
      · obtain ⟨n1, n2, n3⟩ := n b hb
        have z := na b n2
        rw [upd_ne z] at n1 ⊢
        exact ⟨n1, n2, n3⟩
    · exact h F H σ fps Q Eo ⟨a, o, vs, h1, ha, hH⟩ q
variable {κ A : Type} {g : κ → Key} {f : A → Dt} {kvs : List (κ × A)} {tg : Expr}
theorem lck_rep {F H : Hp} {σ : L2.St} {fps : Nat → List Addr} {ds : List (Key × Dt)} (Eo : EnvOk K F H σ G fps) (hL : Lck i F H σ) (hg : G[i]? = some (some (.fz (.dic ds)))) :
    ∃ a o vs, σ[i]? = some (some (V.ref a)) ∧ H a = some (.frz o (.dK vs)) ∧ RepK K F vs ds ∧ ∀ F' H', Ex F F' → Kp F H H' → H' a = some (.frz o (.dK vs)) := by
  obtain ⟨v, h1, h2⟩ := Eo.ent i _ hg
  obtain ⟨a, o, vs, l1, l2, l3⟩ := hL
  rw [h1] at l1; cases l1
  obtain ⟨_, r⟩ := h2.there
  cases r with
  | dic ha l rk nd =>
    rw [l2] at ha; cases ha
    exact ⟨a, o, vs, h1, l3, rk, fun F' H' _ k => k a _ (by rw [l2]; simp) l3⟩
/-- d.values() -/
theorem src_vals {x : Str} {p apos cpos : Pos} (i : Nat) (hg : G[i]? = some (some (.fz (.dic (encK g f kvs))))) (hN : X.N[i]? = some x := by rfl) (hv : Vis X.env.scope x := by first | exact Or.inl rfl | exact Or.inr (Or.inl rfl) | exact Or.inr (Or.inr rfl))
    (hd : (x == ("__debug__" : Str)) = false := by decide) (hcd : (x == ("__classdict__" : Str)) = false := by decide) (hbase : attributeBase (.Name x p) "values" X.env (eval (.Name x p) X.env) = eval (.Name x p) X.env := by rfl) (hline : (apos.endLine == cpos.line) = true := by rfl)
    (hs : ∀ y, foldedSetIterable (.Call (.Attribute (.Name x p) "values" apos) [] [] cpos) X.env y = pure y := by intro _; rfl) : ISrcL (Lck i) X K G tg (.Call (.Attribute (.Name x p) "values" apos) [] [] cpos) ((kvs.map (·.2)).map f) :=
  ⟨iVals (tVar i), pi_values (pe_var hN hv hd hcd) hbase hline, hs, fun F H σ fps R Eo hL q => by
    obtain ⟨a, o, vs, h1, l3, rk, kp⟩ := lck_rep Eo hL hg
    have hl := repK_len rk
    have rv := repK_valsL rk
    have hlen : ((kvs.map (·.2)).map f).length = vs.length := by rw [List.length_map, List.length_map, hl]
    refine ⟨_, h1, a, o, vs, rfl, l3, q _ F H (Up.refl Eo.sub) ⟨fun j F' H' e s k hj => ⟨kp F' H' e k, by omega⟩, fun j F' H' e s k hj => ⟨kp F' H' e k, by omega⟩, fun j d F' H' v H'' e s k hd hy => ?_⟩⟩
    obtain ⟨rfl, k', hk⟩ := hy
    rw [List.map_map] at hd
    obtain ⟨w, e1, e2⟩ := rv.get (show (kvs.map fun z => f z.2)[j]? = some d from hd)
    rw [List.getElem?_map, hk] at e1
    cases e1
    exact ⟨F', Up.refl s, e2.mono e⟩⟩
/-- the keys: for x in d -/
theorem src_keys {x : Str} {p : Pos} {fk : κ → Dt} (i : Nat) (hg : G[i]? = some (some (.fz (.dic (encK g f kvs))))) (hk : ∀ k, keyD (g k) = fk k) (hN : X.N[i]? = some x := by rfl) (hv : Vis X.env.scope x := by first | exact Or.inl rfl | exact Or.inr (Or.inl rfl) | exact Or.inr (Or.inr rfl))
    (hd : (x == ("__debug__" : Str)) = false := by decide) (hcd : (x == ("__classdict__" : Str)) = false := by decide)
    (hs : ∀ y, foldedSetIterable (.Name x p) X.env y = pure y := by intro _; rfl) : ISrcL (Lck i) X K G tg (.Name x p) ((kvs.map (·.1)).map fk) :=
  ⟨iKeys (tVar i), pi_keys (pe_var hN hv hd hcd), hs, fun F H σ fps R Eo hL q => by
    obtain ⟨a, o, vs, h1, l3, rk, kp⟩ := lck_rep Eo hL hg
    have hl := repK_len rk
    have rv := repK_keysL rk
    have hlen : ((kvs.map (·.1)).map fk).length = vs.length := by rw [List.length_map, List.length_map, hl]
    refine ⟨_, h1, a, o, rfl, .inl ⟨vs, l3, q _ F H (Up.refl Eo.sub) ⟨fun j F' H' e s k hj => ⟨kp F' H' e k, by omega⟩, fun j F' H' e s k hj => ⟨kp F' H' e k, by omega⟩, fun j d F' H' v H'' e s k hd hy => ?_⟩⟩⟩
    obtain ⟨rfl, k', v', hk', rfl⟩ := hy
    have e0 : (kvs.map (·.1)).map fk = kvs.map fun z => keyD (g z.1) := by
      rw [List.map_map]
      exact List.map_congr_left fun z _ => (hk z.1).symm
    rw [e0] at hd
    obtain ⟨w, e1, e2⟩ := rv.get hd
    rw [List.getElem?_map, hk'] at e1
    cases e1
    exact ⟨F', Up.refl s, e2.mono e⟩⟩
/-- [elt for TARGET in d.. if ..] -/
theorem x_lcD {A : Type} {elt tg iter : Expr} {ifs : List Expr} {scope : Scope} {own : List (Str × Nat)} {pos : Pos} {g : TG} {js : List Nat} {xs : List A} {ds : List (Key × Dt)} (i : Nat) (hgi : G[i]? = some (some (.fz (.dic ds)))) (enc : A → Dt) (Gb : A → Env) (p : A → Bool) (f : A → Dt)
    (hc : X.calm = true) (hN : X.N.Nodup) (hi : ISrcL (Lck i) X K G tg iter (xs.map enc)) (hn : xs.length ≤ big) (ok : BlkOk X.N X.env.scope scope own) (hjs : ∀ j ∈ js, j ∈ own.map (·.2))
    (hg : ∀ b, PG (blkX (one X) scope b) tg g) (hB : ∀ x, Bd K g js (enc x) (wipeG G (own.map (·.2))) (Gb x))
    (ht : ∃ t : TT, (∀ i, PTs (blkX (one X) scope i) ifs t) ∧ ∀ x, x ∈ xs → ∀ F H σ fps (Q : Bool → Hp → Prop), EnvOk K F H σ (Gb x) fps → (∀ F' H', Up F H F' H' → Q (p x) H') → t σ H Q)
    (he : ∀ x, x ∈ xs → p x = true → EX (blkX (one X) scope) K (Gb x) elt (f x)) :
    EN (one X) K G (.ListComp elt [⟨tg, iter, ifs, 0⟩] scope pos) (.ol (xs.filterMap fun x => if p x then some (f x) else none)) := (en_lcL (Lck i) enc Gb p f hc hN hi hn ok hjs hg hB ht he).unlock hgi
end
end Vs

/-! Calls that leave parameters to their defaults. list(d), typed. -/
namespace Vs
open PySem PySem.Spec L2
/-- a def that is called with its last parameters left to their defaults dd -/
structure CalleeD (P : Program) (w : World) (K : PySem.W.Frag) (mg : Str → Option Value) (base : Heap) (x : Str) (k n : Nat) (dd : List Dt) (r : List Dt → Sum Cell Xc → Prop) : Prop where
  ex : ∃ f fd ps dvs ds, FnOk P w K mg base (L2.CX P w) k f fd ps (spR K n r) ∧ mg x = some (.ref f) ∧ PySem.W.keepIn K (.ref f) = true ∧ Binds K fd ps ds ∧ Vals dvs ds ∧ ∀ F, RepL K F dvs dd
section
variable {I : Type} {X : I → Cx} {K : PySem.W.Frag} {G : Env} {P : Program} {w : World} {mg : Str → Option Value} {base : Heap}
theorem en_callD {x : Str} {k n : Nat} {dd : List Dt} {r : List Dt → Sum Cell Xc → Prop} {p pos : Pos} {e : Expr} {es : List Expr} {ds : List Dt} {c : Cell} (C : CalleeD P w K mg base x k n dd r) (hX : Of X P w K mg base) (hr : ∀ j, Room k (X j).A) (hg : ∀ j, Gl (X j) x)
    (ha : EA X K G (e :: es) ds) (hn : (ds ++ dd).length = n) (hR : r (ds ++ dd) (.inl c)) (hdb : (x == ("__debug__" : Str)) = false := by decide) (he : ∀ j, starEach (e :: es) (X j).env = (false, eval e (X j).env) :: starEach es (X j).env := by intro _; rfl)
    (hpl : ∀ j, (backTo pos (starEach es (X j).env)).any (·.1) = false := by intro _; rfl) : EN X K G (.Call (.Name x p) (e :: es) [] pos) c := fun F H σ fps Q Eo q => by
  obtain ⟨f, fd, ps, dvs, dsv, h1, h2, h3, h4, h5, h6⟩ := C.ex
  refine ⟨tCall (spR K n r) dvs E0 (wpA X (e :: es)), fun j => ?_, ha F H σ fps _ Eo fun F1 H1 vs u rl => ?_⟩
  · obtain ⟨e1, e2, e3, e4, e5⟩ := hX j
    subst e1 e2 e3 e4 e5
    exact pe_call h1 (hr j) (hg j) h2 h3 h4 h5 passL (pa_wp j) hdb (he j) (hpl j)
  · exact ⟨F1, ds ++ dd, .inl c, u.sb, rl.append (h6 F1), hn, hR, fun F' H' v fp u' r' n' => q F' H' v fp (u.trans u') r' fun a ha => ⟨u.hp.free (n' a ha).1, (n' a ha).2.1, (n' a ha).2.2⟩⟩
theorem ex_callD {x : Str} {k n : Nat} {dd : List Dt} {r : List Dt → Sum Cell Xc → Prop} {p pos : Pos} {e : Expr} {es : List Expr} {ds : List Dt} {d : Dt} (C : CalleeD P w K mg base x k n dd r) (hX : Of X P w K mg base) (hr : ∀ j, Room k (X j).A) (hg : ∀ j, Gl (X j) x)
    (ha : EA X K G (e :: es) ds) (hn : (ds ++ dd).length = n) (hR : r (ds ++ dd) (.inl (.fz d))) (hdb : (x == ("__debug__" : Str)) = false := by decide) (he : ∀ j, starEach (e :: es) (X j).env = (false, eval e (X j).env) :: starEach es (X j).env := by intro _; rfl)
    (hpl : ∀ j, (backTo pos (starEach es (X j).env)).any (·.1) = false := by intro _; rfl) : EX X K G (.Call (.Name x p) (e :: es) [] pos) d := (en_callD C hX hr hg ha hn hR hdb he hpl).fz0
theorem bindsF {fd : FuncData} {ps : List Str} (h : ∃ ds, Vals [] ds ∧ Binds K fd ps ds) : Binds K fd ps [] := by
  obtain ⟨ds, r, b⟩ := h
  cases r
  exact b
theorem calleeN {x : Str} {k n : Nat} {r : List Dt → Sum Cell Xc → Prop} {f : Addr} {fd : FuncData} {ps : List Str} (h1 : FnOk P w K mg base (L2.CX P w) k f fd ps (spR K n r)) (h2 : mg x = some (.ref f)) (h3 : PySem.W.keepIn K (.ref f) = true) (h4 : ∃ ds, Vals [V.non] ds ∧ Binds K fd ps ds) : CalleeD P w K mg base x k n [.non] r := by
  obtain ⟨ds, r, b⟩ := h4
  exact ⟨f, fd, ps, _, ds, h1, h2, h3, b, r, fun F => .cons .non .nil⟩
/-- list(d), the keys typed -/
theorem x_listD {κ A : Type} {g : κ → Key} {f : A → Dt} {e : Expr} {p pos : Pos} {kvs : List (κ × A)} (fk : κ → Dt) (hk : ∀ k, keyD (g k) = fk k) (hc : ∀ j, (X j).calm = true) (h : ED X K G e (encK g f kvs)) (hg : ∀ j, Gl (X j) "list") (hm : ∀ j, (X j).mg "list" = none)
    (he : ∀ j, starEach [e] (X j).env = [(false, eval e (X j).env)] := by intro _; rfl) : EN X K G (.Call (.Name "list" p) [e] [] pos) (.ol ((kvs.map (·.1)).map fk)) := by
  have z := en_listD (p := p) (pos := pos) hc h hg hm he
  rw [show (kvs.map (·.1)).map fk = kvs.map fun z => keyD (g z.1) from by rw [List.map_map]; exact List.map_congr_left fun z _ => (hk z.1).symm]
  exact z
end
/-- enumerate, typed -/
def enum {A : Type} (xs : List A) : List (Nat × A) := xs.mapIdx fun i x => (i, x)
theorem x_enum {A : Type} {X : Cx} {K : PySem.W.Frag} {G : Env} (f : A → Dt) {xs : List A} {a : Expr} {p pos tpos : Pos} {elts : List Expr} {kk : Nat} (hK : X.K = K) (hg : Gl X "enumerate") (hm : X.mg "enumerate" = none) (h : EX (one X) K G a (.lst (xs.map f))) (hsa : starEach [a] X.env = [(false, eval a X.env)] := by rfl)
    (hs : ∀ x, foldedSetIterable (.Call (.Name "enumerate" p) [a] [] pos) X.env x = pure x := by intro _; rfl) : ISrc X K G (.Tuple elts kk tpos) (.Call (.Name "enumerate" p) [a] [] pos) ((enum xs).map fun z : Nat × A => Dt.tup [Dt.int (z.1 : Int), f z.2]) := by
  have e : (xs.map f).mapIdx (fun i d => Dt.tup [.int (i : Int), d]) = (enum xs).map fun z : Nat × A => Dt.tup [Dt.int (z.1 : Int), f z.2] := by
    unfold enum
    apply List.ext_getElem?
    intro i
    rw [List.getElem?_mapIdx, List.getElem?_map, List.getElem?_map, List.getElem?_mapIdx]
    cases xs[i]? <;> rfl
  rw [← e]
  exact src_enum hK hg hm h hsa hs
theorem tt_of {A : Type} {X : Cx} {K : PySem.W.Frag} {scope : Scope} {Gb : A → Env} {p : A → Bool} {xs : List A} {e : Expr} (h : ∀ x, x ∈ xs → EB (blkX (one X) scope) K (Gb x) e (p x)) :
    ∃ t : TT, (∀ i, PTs (blkX (one X) scope i) [e] t) ∧ ∀ x, x ∈ xs → ∀ F H σ fps (Q : Bool → Hp → Prop), EnvOk K F H σ (Gb x) fps → (∀ F' H', Up F H F' H' → Q (p x) H') → t σ H Q :=
  ⟨wpT _ e, fun i => pts_one (pt_wp i), fun x hm F H σ fps Q E q => h x hm F H σ fps Q E q⟩
end Vs

/-! Dicts of tuple keys. -/
namespace Vs
open PySem PySem.Spec L2
def encT {κ A : Type} (g : κ → List Key) (f : A → Dt) (kvs : List (κ × A)) : List (List Key × Dt) := kvs.map fun z => (g z.1, f z.2)
section
variable {κ A : Type} [DecidableEq κ] {g : κ → List Key} (hg : ∀ a b, g a = g b → a = b) {f : A → Dt} {K : PySem.W.Frag} {F : Hp}
include hg
theorem repT_get (k : κ) : ∀ {kvs : List (κ × A)} {vs : List (List Key × V)}, RepT K F vs (encT g f kvs) → (gets kvs k = none ∧ valV vs (g k) = none) ∨ ∃ a v, gets kvs k = some a ∧ valV vs (g k) = some v ∧ Rep K F v (f a)
  | [], _, .nil => .inl ⟨rfl, rfl⟩
  | (j, a) :: r, _, .cons (v := v) (vs := vs) h t => by
    by_cases e : j = k
    · subst e
      exact .inr ⟨a, v, by simp [gets], valV_pos rfl, h⟩
    · have e' : ¬ (g j, v).1 = g k := fun z => e (hg _ _ z)
      rw [valV_neg e']
      have e2 : gets ((j, a) :: r) k = gets r k := by simp [gets, e]
      rw [e2]
      exact repT_get k t
theorem repT_put (k : κ) {v : V} {a : A} (hv : Rep K F v (f a)) : ∀ {kvs : List (κ × A)} {vs : List (List Key × V)}, (kvs.map (·.1)).Nodup → RepT K F vs (encT g f kvs) → RepT K F (putK vs (g k) v) (encT g f (puts kvs k a))
  | [], _, _, .nil => .cons hv .nil
  | (j, b) :: r, _, nd, .cons (v := w) (vs := vs) h t => by
    rw [List.map_cons, List.nodup_cons] at nd
    by_cases e : j = k
    · subst e
      have e2 : puts ((j, b) :: r) j a = (j, a) :: r := by simp [puts]
      rw [e2]
      have ht : ∀ {kvs : List (κ × A)} {vs : List (List Key × V)}, j ∉ kvs.map (·.1) → RepT K F vs (encT g f kvs) → (vs.map fun kv => if kv.1 = g j then (kv.1, v) else kv) = vs := by
        intro kvs
        induction kvs with
        | nil => intro vs _ q; cases q; rfl
        | cons z s ih =>
          intro vs hn q
          cases q with
          | cons h1 h2 =>
            rw [List.map_cons, List.mem_cons, not_or] at hn
            rw [List.map_cons, ih hn.2 h2, if_neg (fun x => hn.1 (hg _ _ x).symm)]
      unfold putK
      rw [if_pos (by simp), List.map_cons, if_pos rfl, ht nd.1 t]
      exact .cons hv t
    · have e' : ¬ g j = g k := fun z => e (hg _ _ z)
      have e2 : puts ((j, b) :: r) k a = (j, b) :: puts r k a := by simp [puts, e]
      have e3 : putK ((g j, w) :: vs) (g k) v = (g j, w) :: putK vs (g k) v := by
        unfold putK
        rw [List.any_cons]
        simp only [e', decide_false, Bool.false_or, List.map_cons, if_false]
        split <;> rfl
      rw [e2, e3]
      exact .cons h (repT_put k hv nd.2 t)
end
theorem repT_len {κ A : Type} {g : κ → List Key} {f : A → Dt} {K : PySem.W.Frag} {F : Hp} : ∀ {kvs : List (κ × A)} {vs : List (List Key × V)}, RepT K F vs (encT g f kvs) → vs.length = kvs.length
  | [], _, .nil => rfl
  | _ :: r, _, .cons _ t => by rw [List.length_cons, List.length_cons, repT_len t]
theorem repT_keys {κ A : Type} {g : κ → List Key} {f : A → Dt} {K : PySem.W.Frag} {F : Hp} : ∀ {kvs : List (κ × A)} {vs : List (List Key × V)}, RepT K F vs (encT g f kvs) → vs.map (·.1) = kvs.map fun z => g z.1
  | [], _, .nil => rfl
  | _ :: r, _, .cons _ t => by rw [List.map_cons, List.map_cons, repT_keys t]
theorem nodupT_un {κ A : Type} {g : κ → List Key} {f : A → Dt} {K : PySem.W.Frag} {F : Hp} {kvs : List (κ × A)} {vs : List (List Key × V)} (r : RepT K F vs (encT g f kvs)) (h : (vs.map (·.1)).Nodup) : (kvs.map (·.1)).Nodup := by
  rw [repT_keys r] at h
  have e : (kvs.map fun z => g z.1) = (kvs.map (·.1)).map g := by rw [List.map_map]; rfl
  rw [e] at h
  unfold List.Nodup at h ⊢
  rw [List.pairwise_map] at h
  exact h.imp fun hab z => hab (by rw [z])
theorem nodupT_g {κ A : Type} {g : κ → List Key} (hgi : ∀ a b, g a = g b → a = b) {kvs : List (κ × A)} (h : (kvs.map (·.1)).Nodup) : (kvs.map fun z => g z.1).Nodup := by
  have e : (kvs.map fun z => g z.1) = (kvs.map (·.1)).map g := by rw [List.map_map]; rfl
  rw [e]
  exact List.Pairwise.map g (fun a b (hab : a ≠ b) z => hab (hgi a b z)) h
/-- pairs of texts as keys -/
def kSS (p : Str × Str) : List Key := [.inr p.1, .inr p.2]
theorem kSS_inj (a b : Str × Str) (h : kSS a = kSS b) : a = b := by
  obtain ⟨a1, a2⟩ := a
  obtain ⟨b1, b2⟩ := b
  unfold kSS at h
  injection h with h1 h2
  injection h2 with h2 _
  injection h1 with h1
  injection h2 with h2
  dsimp only at h1 h2
  rw [h1, h2]
theorem kSS_rep {K : PySem.W.Frag} (p : Str × Str) (F : Hp) (v : V) (r : Rep K F v (.tup [.str p.1, .str p.2])) : ∃ b, v = .ref b ∧ F b = some (.tup ((kSS p).map kV)) := by
  cases r with
  | tup h _ rl =>
    cases rl with
    | cons r1 rl =>
      cases rl with
      | cons r2 rl =>
        cases rl
        cases r1
        cases r2
        exact ⟨_, rfl, h⟩
theorem sub_tup {F H : Hp} (s : Sub F H) {b : Addr} {vs : List V} (h : F b = some (.tup vs)) : H b = some (.tup vs) := by
  rcases s b _ h with q | ⟨c, _⟩
  · exact q
  · rcases c with ⟨_, c⟩ | ⟨_, c⟩ <;> cases c
section
variable {I : Type} {X : I → Cx} {K : PySem.W.Frag} {G : Env}
theorem en_dit0 {pos : Pos} : EN X K G (.Dict [] [] pos) (.odt []) := fun F H σ fps Q k q =>
  ⟨tDNewT, fun _ => pe_dnewT, fun d hd => by
    refine q F (upd H d (.dT [])) (.ref d) [d] (Up.layH k.sub hd) (.odt upd_same (Nat.zero_le _) .nil List.nodup_nil) fun a ha => ?_
    obtain rfl : a = d := by simpa using ha
    exact ⟨hd, k.sub.none hd, by rw [upd_same]; simp⟩⟩
/-- a seen dict of tuple keys -/
def EDT (X : I → Cx) (K : PySem.W.Frag) (G : Env) (e : Expr) (ds : List (List Key × Dt)) : Prop :=
  ∀ F H σ fps (Q : VK), EnvOk K F H σ G fps → (∀ F' H' p vs, Up F H F' H' → Rd H' p (.dT vs) → vs.length ≤ big → RepT K F' vs ds → (vs.map (·.1)).Nodup → Q (.ref p) H') → wpE X e σ H Q
theorem EX.edt {e : Expr} {ds : List (List Key × Dt)} (h : EX X K G e (.dit ds)) : EDT X K G e ds := fun F H σ fps Q k q =>
  h F H σ fps Q k fun F1 H1 v u r => by
    cases r with
    | dit h1 l r n => exact q F1 H1 _ _ u (u.sb.rd h1) l r n
theorem EP.edt {e : Expr} {i : Nat} {π : List Nat} {ds : List (List Key × Dt)} (h : EP X K G e i π) (hg : atG G i π = some (.odt ds)) : EDT X K G e ds := fun F H σ fps Q E q =>
  h F H σ fps _ E fun F1 H1 v u l => by
    obtain ⟨fpc, r, _⟩ := (E.up u).loc hg l
    obtain ⟨p, vs, rfl, _, h2, l, r, nd⟩ := r.odt_inv
    exact q F1 H1 p vs u (.inl h2) l r nd
variable {κ A : Type} [DecidableEq κ] {g : κ → List Key} {kvs : List (κ × A)} {k : κ} (f : A → Dt) (hgi : ∀ a b, g a = g b → a = b) (fk : κ → Dt) (hk : ∀ p F v, Rep K F v (fk p) → ∃ b, v = .ref b ∧ F b = some (.tup ((g p).map kV)))
include hgi hk
theorem dgetT {F H : Hp} {p : Addr} {vs : List (List Key × V)} {y : V} (s : Sub F H) (r : Rd H p (.dT vs)) (rl : RepT K F vs (encT g f kvs)) (ry : Rep K F y (fk k)) : ∃ ov, DGet H p y ov ∧ ov.isSome = hasK kvs k := by
  obtain ⟨b, rfl, hb⟩ := hk k F y ry
  refine ⟨_, .inr ⟨vs, g k, b, r, rfl, sub_tup s hb, rfl⟩, ?_⟩
  unfold hasK
  rcases repT_get hgi k rl with ⟨e1, e2⟩ | ⟨b, w, e1, e2, e3⟩
  · rw [e1, e2]; rfl
  · rw [e1, e2]; rfl
/-- k in d, k not in d -/
theorem xx_inT {o e : Expr} {pos : Pos} (hu : ∀ j, (X j).A.units + 64 < cLine) (he : EX X K G e (fk k)) (ho : EDT X K G o (encT g f kvs)) (hm : behindInMarks .In o = false := by rfl) : EX X K G (.Compare e [.In] [o] pos) (.bl (hasK kvs k)) := fun F H σ fps Q E q =>
  ⟨tDIn (wpE X e) (wpE X o), fun j => pe_cmp (pc_din (Nat.lt_of_le_of_lt (by omega) (hu j)) (pe_wp j) (pe_wp j)) hm, he F H σ fps _ E fun F1 H1 y u1 r1 => ho F1 H1 σ fps _ (E.up u1) fun F2 H2 p vs u2 r l rl _ => by
    obtain ⟨ov, g1, g2⟩ := dgetT f hgi fk hk (k := k) u2.sb r rl (r1.mono u2.fr)
    exact ⟨p, ov, rfl, g1, by rw [g2]; exact q F2 H2 _ (u1.trans u2) (.bl _)⟩⟩
theorem xb_inT {o e : Expr} {pos : Pos} (hu : ∀ j, (X j).A.units + 64 < cLine) (he : EX X K G e (fk k)) (ho : EDT X K G o (encT g f kvs)) (hm : behindInMarks .In o = false := by rfl) : EB X K G (.Compare e [.In] [o] pos) (hasK kvs k) := fun F H σ fps Q E q =>
  ⟨tTest (tDIn (wpE X e) (wpE X o)), fun j => pt_cmp (pc_din (Nat.lt_of_le_of_lt (by omega) (hu j)) (pe_wp j) (pe_wp j)) hm, he F H σ fps _ E fun F1 H1 y u1 r1 => ho F1 H1 σ fps _ (E.up u1) fun F2 H2 p vs u2 r l rl _ => by
    obtain ⟨ov, g1, g2⟩ := dgetT f hgi fk hk (k := k) u2.sb r rl (r1.mono u2.fr)
    exact ⟨p, ov, rfl, g1, _, rfl, by rw [g2]; exact q F2 H2 (u1.trans u2)⟩⟩
end
section
variable {X : Cx} {K : PySem.W.Frag} {W : WX} {sv : Sv} {G : Env} {rest : List Stmt} {o : Out} {pos : Pos}
/-- d[k] = e, d an own dict of tuple keys -/
theorem run_setDT {κ A : Type} [DecidableEq κ] {g : κ → List Key} {i : Nat} {π : List Nat} {t e ie : Expr} {sp : Pos} {kvs : List (κ × A)} {k : κ} {a : A} {G' : Env} (f : A → Dt) (hgi : ∀ a b, g a = g b → a = b) (fk : κ → Dt) (hk : ∀ p F v, Rep K F v (fk p) → ∃ b, v = .ref b ∧ F b = some (.tup ((g p).map kV))) (hu : X.A.units + 64 < cLine) (ht : EP (one X) K G t i π) (hg : atG G i π = some (.odt (encT g f kvs))) (h : EX (one X) K G e (f a)) (hi : EX (one X) K G ie (fk k)) (hn : kvs.length + 1 ≤ big)
    (hG : updG G i π (.odt (encT g f (puts kvs k a))) = G') (kk : Run X K W sv rest G' o)
    (hs : swapsWith e (some (.Subscript t ie sp)) pos.line X.env = pure false := by rfl) :
    Run X K W sv (.Assign [.Subscript t ie sp] e pos :: rest) G o := fun F H σ fps D Eo s q => by
  subst hG
  refine ⟨tSeq (sDPut (wpE (one X) t) (wpE (one X) ie) (wpE (one X) e)) (wpSs X rest), pss_cons (ps_dput (Nat.lt_of_le_of_lt (by omega) hu) pe_w1 pe_w1 pe_w1 hs) pss_wp, h F H σ fps _ Eo fun F1 H1 w u r1 => ?_⟩
  refine ht F1 H1 σ fps _ (Eo.up u) fun F0 H0 v u0 l0 => ?_
  obtain ⟨fpc0, r0, _⟩ := ((Eo.up u).up u0).loc hg l0
  obtain ⟨p, vs, rfl, _, b2, l, r, nd⟩ := r0.odt_inv
  refine hi F0 H0 σ fps _ ((Eo.up u).up u0) fun F2 H2 m u2 r2 => ?_
  obtain ⟨b, rfl, hb⟩ := hk k F2 m r2
  have E2 := ((Eo.up u).up u0).up u2
  have hlen := repT_len r
  have nd0 := nodupT_un r nd
  have nw : RepT K F2 (putK vs (g k) w) (encT g f (puts kvs k a)) := repT_put hgi k (r1.mono (u0.trans u2).fr) nd0 (r.mono u2.fr)
  have hl2 : (putK vs (g k) w).length ≤ big := by
    have e1 := repT_len nw
    have := puts_len k a kvs
    omega
  have nd2 : ((putK vs (g k) w).map (·.1)).Nodup := by rw [repT_keys nw]; exact nodupT_g hgi (puts_nodup nd0)
  obtain ⟨fps2, E3, l3⟩ := E2.set1 (fq := []) hg (l0.mono u2.hp) (fun fpc r a => by obtain ⟨p', _, e1, e2, _⟩ := r.odt_inv; cases e1; rw [e2]; simp) (.dT (putK vs (g k) w)) (.odt (encT g f (puts kvs k a))) (.odt upd_same hl2 nw nd2)
  exact ⟨p, _, rfl, DPut.t (u2.hp _ _ b2) (sub_tup u2.sb hb) (Nat.lt_of_lt_of_le (by omega) big_line), kk F2 _ σ fps2 D E3 s (q.le (((u.trans u0).trans u2).le.trans l3))⟩
end
end Vs

/-! Dicts of own lists: d.setdefault(k, []).append(e). -/
namespace Vs
open PySem PySem.Spec L2
def encL {κ A : Type} (g : κ → Key) (f : A → Dt) (kvs : List (κ × List A)) : List (Key × Cell) := kvs.map fun z => (g z.1, .ol (z.2.map f))
/-- d.setdefault(k, []).append(x) -/
def apps {κ A : Type} [DecidableEq κ] (kvs : List (κ × List A)) (k : κ) (x : A) : List (κ × List A) := puts kvs k ((gets kvs k).getD [] ++ [x])
section
variable {κ A : Type} [DecidableEq κ] {g : κ → Key} (hg : ∀ a b, g a = g b → a = b) {f : A → Dt} {K : PySem.W.Frag} {F H : Hp}
include hg
theorem repCL_get (k : κ) : ∀ {kvs : List (κ × List A)} {fp : List Addr} {vs : List (Key × V)}, RepCK K F H fp vs (encL g f kvs) → (gets kvs k = none ∧ valV vs (g k) = none) ∨ ∃ xs q ws, gets kvs k = some xs ∧ valV vs (g k) = some (.ref q) ∧ q ∈ fp ∧ H q = some (.lst ws) ∧ ws.length ≤ big ∧ RepL K F ws (xs.map f)
  | [], _, _, .nil => .inl ⟨rfl, rfl⟩
  | (j, a) :: r, _, _, .cons (v := v) (vs := vs) (fp := fp) (fq := fq) o h t d => by
    by_cases e : j = k
    · subst e
      obtain ⟨p, ws, rfl, rfl, h1, h2, h3⟩ := h.ol_inv
      exact .inr ⟨a, p, ws, by simp [gets], valV_pos rfl, by simp, h1, h2, h3⟩
    · have e' : ¬ (g j, v).1 = g k := fun z => e (hg _ _ z)
      rw [valV_neg e']
      have e2 : gets ((j, a) :: r) k = gets r k := by simp [gets, e]
      rw [e2]
      rcases repCL_get k t with h' | ⟨xs, q, ws, a1, a2, a3, a4⟩
      · exact .inl h'
      · exact .inr ⟨xs, q, ws, a1, a2, List.mem_append_right _ a3, a4⟩
theorem repCL_put (k : κ) {F' H' : Hp} (ex : Ex F F') {q : Addr} {xs' : List A} {ws' : List V} (h1 : H' q = some (.lst ws')) (h2 : ws'.length ≤ big) (h3 : RepL K F' ws' (xs'.map f)) : ∀ {kvs : List (κ × List A)} {fp : List Addr} {vs : List (Key × V)}, RepCK K F H fp vs (encL g f kvs) → (∀ a ∈ fp, a ≠ q → ∀ o, H a = some o → H' a = some o) → valV vs (g k) = some (.ref q) → RepCK K F' H' fp vs (encL g f (puts kvs k xs'))
  | [], _, _, .nil, _, hv => by cases hv
  | (j, a) :: r, _, _, .cons (v := v) (vs := vs) (fp := fp) (fq := fq) o h t d, kp, hv => by
    by_cases e : j = k
    · subst e
      have e2 : puts ((j, a) :: r) j xs' = (j, xs') :: r := by simp [puts]
      rw [e2]
      rw [valV_pos rfl] at hv
      obtain ⟨p, ws, e3, rfl, h4, _⟩ := h.ol_inv
      rw [e3] at hv
      cases hv
      subst e3
      refine .cons o (.ol h1 h2 h3) (t.mono ex fun b hb o z => kp b (List.mem_append_right _ hb) (fun y => d q (by simp) (by rw [← y]; exact hb)) o z) d
    · have e' : ¬ (g j, v).1 = g k := fun z => e (hg _ _ z)
      rw [valV_neg e'] at hv
      have e2 : puts ((j, a) :: r) k xs' = (j, a) :: puts r k xs' := by simp [puts, e]
      rw [e2]
      have hq : q ∈ fq := by
        rcases repCL_get hg k t with ⟨_, z⟩ | ⟨_, q', _, _, z, z', _⟩
        · rw [hv] at z; cases z
        · rw [hv] at z; cases z; exact z'
      exact .cons o (h.mono ex fun b hb o z => kp b (List.mem_append_left _ hb) (fun y => d b hb (by rw [y]; exact hq)) o z) (repCL_put k ex h1 h2 h3 t (fun b hb => kp b (List.mem_append_right _ hb)) hv) d
end
theorem RepCK.snoc {K : PySem.W.Frag} {F H : Hp} {k : Key} {v : V} {c : Cell} {fd : List Addr} (o : kOk k = true) (r : RepC K F H fd v c) : ∀ {fp : List Addr} {vs : List (Key × V)} {kvs : List (Key × Cell)}, RepCK K F H fp vs kvs → (∀ a ∈ fd, a ∉ fp) → RepCK K F H (fp ++ fd) (vs ++ [(k, v)]) (kvs ++ [(k, c)])
  | _, _, _, .nil, _ => by
    have z := RepCK.cons o r (RepCK.nil (K := K) (F := F) (H := H)) (fun _ _ h => nomatch h)
    rw [List.append_nil] at z
    exact z
  | _, _, _, .cons (fp := fp) (fq := fq) o' h t d, n => by
    have z := RepCK.snoc o r (fp := fq) t (fun a ha y => n a ha (List.mem_append_right _ y))
    rw [List.append_assoc]
    refine .cons o' h z fun a ha y => ?_
    rcases List.mem_append.mp y with y | y
    · exact d a ha y
    · exact n a y (List.mem_append_left _ ha)
theorem putK_out {κ : Type} [DecidableEq κ] {vs : List (κ × V)} {k : κ} {v : V} (h : valV vs k = none) : putK vs k v = vs ++ [(k, v)] := by
  unfold putK
  rw [valV_any, h]
  rfl
theorem puts_out {κ A : Type} [DecidableEq κ] {k : κ} {a : A} : ∀ {kvs : List (κ × A)}, gets kvs k = none → puts kvs k a = kvs ++ [(k, a)]
  | [], _ => rfl
  | p :: r, h => by
    unfold gets at h
    unfold puts
    split at h
    · cases h
    · rename_i e
      rw [if_neg e, puts_out h]; rfl
theorem repCL_len {κ A : Type} {g : κ → Key} {f : A → Dt} {K : PySem.W.Frag} {F H : Hp} {kvs : List (κ × List A)} {fp : List Addr} {vs : List (Key × V)} (r : RepCK K F H fp vs (encL g f kvs)) : vs.length = kvs.length := by
  rw [repCK_len r]
  unfold encL
  rw [List.length_map]
section
variable {I : Type} {X : I → Cx} {K : PySem.W.Frag} {G : Env}
theorem en_oc0 {pos : Pos} : EN X K G (.Dict [] [] pos) (.oc []) := fun F H σ fps Q k q =>
  ⟨tDNewK, fun _ => pe_dnewK, fun d hd => by
    refine q F (upd H d (.dK [])) (.ref d) [d] (Up.layH k.sub hd) (.oc upd_same (Nat.zero_le _) .nil (fun h => nomatch h) List.nodup_nil) fun a ha => ?_
    obtain rfl : a = d := by simpa using ha
    exact ⟨hd, k.sub.none hd, by rw [upd_same]; simp⟩⟩
end
section
variable {X : Cx} {K : PySem.W.Frag} {W : WX} {sv : Sv} {G : Env} {rest : List Stmt} {o : Out} {pos : Pos}
theorem run_sda {κ A : Type} [DecidableEq κ] {g : κ → Key} {i : Nat} {π : List Nat} {t ke e : Expr} {ap1 cp1 apos cpos p3 : Pos} {kvs : List (κ × List A)} {k : κ} {y : A} {G' : Env} (f : A → Dt) (hgi : ∀ a b, g a = g b → a = b) (hk : ∀ F v, Rep K F v (match g k with | .inl i => .int i | .inr s => .str s) → v = kV (g k)) (hK : X.K = K) (ht : EP (one X) K G t i π) (hg : atG G i π = some (.oc (encL g f kvs)))
    (hke : EX (one X) K G ke (match g k with | .inl i => .int i | .inr s => .str s)) (h : ∀ v, EX (one X) K (updG G i π (.hl v)) e (f y)) (hn : kvs.length + 1 ≤ big) (hn2 : ((gets kvs k).getD []).length + 1 ≤ big) (hG : updG G i π (.oc (encL g f (apps kvs k y))) = G') (kk : Run X K W sv rest G' o)
    (m : M2 X t "setdefault" ap1 ke (.List [] p3) cp1)
    (hbase : attributeBase (.Call (.Attribute t "setdefault" ap1) [ke, .List [] p3] [] cp1) "append" X.env (eval (.Call (.Attribute t "setdefault" ap1) [ke, .List [] p3] [] cp1) X.env) = eval (.Call (.Attribute t "setdefault" ap1) [ke, .List [] p3] [] cp1) X.env := by rfl)
    (hfew : ((backTo cpos (starEach [e] X.env)).all (fun x => !x.1) && (backToKw cpos (keywordEach [] X.env)).all (fun x => x.1.isSome) && decide (([e] : List Expr).length + ([] : List Keyword).length + (if ([] : List Keyword).isEmpty then 0 else 1) < 30)) = true := by rfl)
    (hline : (apos.endLine == cpos.line) = true := by rfl) (hs : starEach [e] X.env = [(false, eval e X.env)] := by rfl) (hplain : (backTo cpos (starEach ([] : List Expr) X.env)).any (·.1) = false := by rfl)
    (hsw : swapsWith (.Call (.Attribute (.Call (.Attribute t "setdefault" ap1) [ke, .List [] p3] [] cp1) "append" apos) [e] [] cpos) none pos.line X.env = pure false := by rfl) :
    Run X K W sv (.Expr (.Call (.Attribute (.Call (.Attribute t "setdefault" ap1) [ke, .List [] p3] [] cp1) "append" apos) [e] [] cpos) pos :: rest) G o := fun F H σ fps D Eo s q => by
  subst hG
  refine ⟨tSeq (tDrop (tBM X.K "list" rAppend (tDSetd (wpE (one X) t) (wpE (one X) ke) (wpE (one X) (.List [] p3))) (tCons (wpE (one X) e) tNil))) (wpSs X rest), pss_cons (ps_expr (pe_bm PySem.F.plainAttrs_list PySem.F.slot_list_append PySem.F.type_list_append mt_append (pe_dsetd pe_w1 pe_w1 pe_w1 m) (pa_cons pe_w1 pa_nil hs) hbase hfew hline hs hplain) hsw) pss_wp, ht F H σ fps _ Eo fun F0 H0 v u0 l0 => ?_⟩
  obtain ⟨v', fpc, fps1, l', r, E1, ow, ds⟩ := (Eo.up u0).take hg
  obtain rfl := l0.fun l'
  obtain ⟨p, fq, vs, rfl, rfl, hp, hl, rk, hpq, nd⟩ := r.oc_inv
  refine ⟨p, rfl, .inl ⟨vs, .inl hp⟩, hke F0 H0 σ fps _ (Eo.up u0) fun F1 H1 x u1 r1 => ?_⟩
  have ok := kOk_rep (k := g k) r1
  obtain rfl := hk F1 x r1
  refine en_lst (X := one X) (K := K) (G := G) (pos := p3) ea_nil (Nat.zero_le _) F1 H1 σ fps _ ((Eo.up u0).up u1) fun F2 H2 z fd u2 rz nz => ?_
  obtain ⟨Dn, wn, rfl, rfl, hD, _, rD⟩ := rz.ol_inv
  cases rD
  have u12 := u1.trans u2
  obtain ⟨nD1, nD2, nD3⟩ := nz Dn (by simp)
  have nD0 : H0 Dn = none := u1.hp.free nD1
  have hp2 : H2 p = some (.dK vs) := u12.hp _ _ hp
  have hlen := repCL_len rk
  have pD : p ≠ Dn := fun e => by subst e; rw [hp] at nD0; cases nD0
  have qD : Dn ∉ fq := fun hb => ((Eo.up u0).ownF ((ow Dn).mpr (.inr (List.mem_cons_of_mem _ hb)))).2 nD0
  have E2 : EnvOk K F2 H2 σ (updG G i π (.hl (.ref p))) fps1 := E1.up u12
  -- what is owned by the place is not by others
  have np : ∀ a, Owns fps1 a → a ≠ p ∧ a ∉ fq := fun a ha => ⟨fun e => ds p (by simp) (by rw [← e]; exact ha), fun z => ds a (List.mem_cons_of_mem _ z) ha⟩
  have fN : ∀ a, a = p ∨ a ∈ fq → F2 a = none ∧ H2 a ≠ none := fun a ha => by
    have := (Eo.up u0).ownF ((ow a).mpr (.inr (List.mem_cons.mpr ha)))
    refine ⟨u12.nw a this.1 this.2, ?_⟩
    cases z : H0 a with
    | none => exact absurd z this.2
    | some o => rw [u12.hp a o z]; simp
  have rk2 : RepCK K F2 H2 fq vs (encL g f kvs) := rk.mono u12.fr fun a _ o z => u12.hp a o z
  refine ⟨vs, g k, hp2, rfl, Nat.lt_of_le_of_lt hl (Nat.lt_of_lt_of_le (Nat.lt_succ_self _) (Nat.le_trans (by decide : big + 1 ≤ big + 1) (by exact Nat.succ_le_of_lt (Nat.lt_of_lt_of_le (Nat.lt_succ_self big) (by exact Nat.le_of_ble_eq_true rfl))))), fun w hw => ?_, fun hw => ?_⟩
  · rcases repCL_get hgi k rk2 with ⟨_, z⟩ | ⟨xs, qa, ws, g1, g2, g3, g4, g5, g6⟩
    · rw [hw] at z; cases z
    · rw [hw] at g2; cases g2
      refine ⟨.inl ⟨rfl, ws, SqL.of g4⟩, h (.ref p) F2 H2 σ fps1 _ E2 fun F3 H3 yv u3 ry => ?_⟩
      have hn2' : ws.length + 1 ≤ big := by
        rw [g1] at hn2
        rw [g6.len, List.length_map]; exact hn2
      refine ⟨qa, ws, yv, rfl, rfl, u3.hp _ _ g4, Nat.lt_of_lt_of_le (Nat.lt_succ_self _) (Nat.le_trans hn2' big_line), ?_⟩
      have qp : qa ≠ p := fun e => hpq (by rw [← e]; exact g3)
      have sb : Sub F3 (upd H3 qa (.lst (ws ++ [yv]))) := fun a o z => by
        have hne : a ≠ qa := fun e => by subst e; rw [u3.nw a (fN a (.inr g3)).1 (fN a (.inr g3)).2] at z; cases z
        rcases u3.sb a o z with b | ⟨c, ob, b⟩
        · exact .inl (by rw [upd_ne hne]; exact b)
        · exact .inr ⟨c, ob, by rw [upd_ne hne]; exact b⟩
      have E3 : EnvOk K F3 (upd H3 qa (.lst (ws ++ [yv]))) σ (updG G i π (.hl (.ref p))) fps1 := (E2.up u3).keep (Ex.refl _) sb (fun a ha o z => by
        rw [upd_ne (fun e => (np a ha).2 (by rw [e]; exact g3))]; exact z) fun a ha => ((E2.up u3).ownF ha).1
      have rk3 : RepCK K F3 (upd H3 qa (.lst (ws ++ [yv]))) fq vs (encL g f (apps kvs k y)) := by
        unfold apps
        rw [g1]
        refine repCL_put hgi k u3.fr upd_same (by rw [List.length_append]; exact hn2') (by
          show RepL K F3 (ws ++ [yv]) ((xs ++ [y]).map f)
          rw [List.map_append]; exact (g6.mono u3.fr).append (.cons ry .nil)) rk2 (fun a _ hne o z => by rw [upd_ne hne]; exact u3.hp a o z) hw
      have hkeys : ((vs.map (·.1))).Nodup := nd
      obtain ⟨fps3, E4, o4⟩ := E3.give (atG_upd hg) (.oc (by rw [upd_ne (Ne.symm qp)]; exact u3.hp _ _ hp2) hl rk3 hpq hkeys) (fun a ha => by
        have z := List.mem_cons.mp ha
        refine ⟨u3.nw a (fN a z).1 (fN a z).2, ?_⟩
        by_cases e : a = qa
        · rw [e, upd_same]; simp
        · rw [upd_ne e]
          cases y' : H2 a with
          | none => exact absurd y' (fN a z).2
          | some o => rw [u3.hp a o y']; simp) ds
      rw [updG_upd] at E4
      refine kk F3 _ σ fps3 D E4 s (q.le (u0.le.trans ⟨u12.fr.trans u3.fr, fun a o ho z => ?_, fun a ho z z' => (u12.trans u3).nw a z z', fun a ha => ?_⟩))
      · have hne : a ≠ qa := fun e => ho ((ow a).mpr (.inr (List.mem_cons_of_mem _ (by rw [e]; exact g3))))
        rw [upd_ne hne]; exact (u12.trans u3).hp a o z
      · exact .inl ((ow a).mpr ((o4 a).mp ha))
  · rcases repCL_get hgi k rk2 with ⟨g1, _⟩ | ⟨xs, qa, ws, g1, g2, g3, g4, g5, g6⟩
    · have hpn : ∀ a, a = p ∨ a ∈ fq → F2 a = none ∧ (upd H2 p (.dK (putK vs (g k) (.ref Dn)))) a ≠ none := fun a ha => by
        refine ⟨(fN a ha).1, ?_⟩
        by_cases e : a = p
        · rw [e, upd_same]; simp
        · rw [upd_ne e]; exact (fN a ha).2
      have sb2 : Sub F2 (upd H2 p (.dK (putK vs (g k) (.ref Dn)))) := fun a o z => by
        have hne : a ≠ p := fun e => by subst e; rw [(fN a (.inl rfl)).1] at z; cases z
        rcases u2.sb a o z with b | ⟨c, ob, b⟩
        · exact .inl (by rw [upd_ne hne]; exact b)
        · exact .inr ⟨c, ob, by rw [upd_ne hne]; exact b⟩
      have E2' : EnvOk K F2 (upd H2 p (.dK (putK vs (g k) (.ref Dn)))) σ (updG G i π (.hl (.ref p))) fps1 := E2.keep (Ex.refl _) sb2 (fun a ha o z => by rw [upd_ne (np a ha).1]; exact z) fun a ha => (E2.ownF ha).1
      have hD' : (upd H2 p (.dK (putK vs (g k) (.ref Dn)))) Dn = some (.lst []) := by rw [upd_ne (Ne.symm pD)]; exact hD
      refine ⟨.inl ⟨rfl, [], SqL.of hD'⟩, h (.ref p) F2 _ σ fps1 _ E2' fun F3 H3 yv u3 ry => ?_⟩
      refine ⟨Dn, [], yv, rfl, rfl, u3.hp _ _ hD', Nat.le_of_ble_eq_true rfl, ?_⟩
      have nDF : F3 Dn = none := u3.nw Dn nD2 (by rw [hD']; simp)
      have sb : Sub F3 (upd H3 Dn (.lst ([] ++ [yv]))) := fun a o z => by
        have hne : a ≠ Dn := fun e => by subst e; rw [nDF] at z; cases z
        rcases u3.sb a o z with b | ⟨c, ob, b⟩
        · exact .inl (by rw [upd_ne hne]; exact b)
        · exact .inr ⟨c, ob, by rw [upd_ne hne]; exact b⟩
      have nOD : ¬ Owns fps1 Dn := fun z => (E1.ownF z).2 nD0
      have E3 : EnvOk K F3 (upd H3 Dn (.lst ([] ++ [yv]))) σ (updG G i π (.hl (.ref p))) fps1 := (E2'.up u3).keep (Ex.refl _) sb (fun a ha o z => by
        rw [upd_ne (fun e => nOD (by rw [← e]; exact ha))]; exact z) fun a ha => ((E2'.up u3).ownF ha).1
      have rkD : RepCK K F3 (upd H3 Dn (.lst ([] ++ [yv]))) (fq ++ [Dn]) (vs ++ [(g k, .ref Dn)]) (encL g f kvs ++ [(g k, .ol ([y].map f))]) := by
        refine RepCK.snoc ok (.ol upd_same (Nat.le_of_ble_eq_true rfl) (.cons ry .nil)) (rk2.mono u3.fr fun a ha o z => ?_) (fun a ha => by
          obtain rfl : a = Dn := by simpa using ha
          exact qD)
        have hne : a ≠ Dn := fun e => qD (by rw [← e]; exact ha)
        have hne2 : a ≠ p := fun e => hpq (by rw [← e]; exact ha)
        rw [upd_ne hne]
        exact u3.hp a o (by rw [upd_ne hne2]; exact z)
      have rk3 : RepCK K F3 (upd H3 Dn (.lst ([] ++ [yv]))) (fq ++ [Dn]) (putK vs (g k) (.ref Dn)) (encL g f (apps kvs k y)) := by
        rw [putK_out hw]
        unfold apps
        rw [g1, puts_out g1]
        unfold encL
        rw [List.map_append]
        exact rkD
      have hl3 : (putK vs (g k) (.ref Dn)).length ≤ big := by rw [putK_out hw, List.length_append, hlen]; exact hn
      have nd3 : ((putK vs (g k) (.ref Dn)).map (·.1)).Nodup := by
        rw [putK_out hw, List.map_append]
        refine List.nodup_append.mpr ⟨nd, by simp, fun a ha b hb e => ?_⟩
        obtain rfl : b = g k := by simpa using hb
        subst e
        obtain ⟨z, hz, hz'⟩ := List.mem_map.mp ha
        have := valV_any (g k) vs
        rw [hw] at this
        have h2 : (vs.any fun kv => decide (kv.1 = g k)) = true := List.any_eq_true.mpr ⟨z, hz, decide_eq_true hz'⟩
        rw [h2] at this; cases this
      have hp3 : upd H3 Dn (.lst ([] ++ [yv])) p = some (.dK (putK vs (g k) (.ref Dn))) := by rw [upd_ne pD]; exact u3.hp _ _ upd_same
      obtain ⟨fps3, E4, o4⟩ := E3.give (atG_upd hg) (.oc hp3 hl3 rk3 (fun z => by
        rcases List.mem_append.mp z with z | z
        · exact hpq z
        · exact pD (by simpa using z)) nd3) (fun a ha => by
        have z : a = p ∨ a ∈ fq ∨ a = Dn := by
          rcases List.mem_cons.mp ha with z | z
          · exact .inl z
          · rcases List.mem_append.mp z with z | z
            · exact .inr (.inl z)
            · exact .inr (.inr (by simpa using z))
        by_cases e : a = Dn
        · rw [e]; exact ⟨nDF, by rw [upd_same]; simp⟩
        · have z' : a = p ∨ a ∈ fq := by
            rcases z with z | z | z
            · exact .inl z
            · exact .inr z
            · exact absurd z e
          refine ⟨u3.nw a (hpn a z').1 (hpn a z').2, ?_⟩
          rw [upd_ne e]
          cases y' : (upd H2 p (.dK (putK vs (g k) (.ref Dn)))) a with
          | none => exact absurd y' (hpn a z').2
          | some o => rw [u3.hp a o y']; simp) (fun a ha z => by
        rcases List.mem_cons.mp ha with z' | z'
        · exact (np a z).1 z'
        · rcases List.mem_append.mp z' with z' | z'
          · exact (np a z).2 z'
          · exact nOD (by rw [← (by simpa using z' : a = Dn)]; exact z))
      rw [updG_upd] at E4
      refine kk F3 _ σ fps3 D E4 s (q.le (u0.le.trans ⟨u12.fr.trans u3.fr, fun a o ho z => ?_, fun a ho z z' => ?_, fun a ha => ?_⟩))
      · have hne : a ≠ p := fun e => ho ((ow a).mpr (.inr (by rw [e]; simp)))
        have hne2 : a ≠ Dn := fun e => by rw [e, nD0] at z; cases z
        rw [upd_ne hne2]
        exact u3.hp a o (by rw [upd_ne hne]; exact u12.hp a o z)
      · have hne : a ≠ p := fun e => ho ((ow a).mpr (.inr (by rw [e]; simp)))
        refine u3.nw a (u12.nw a z z') ?_
        rw [upd_ne hne]
        cases y' : H0 a with
        | none => exact absurd y' z'
        | some o => rw [u12.hp a o y']; simp
      · rcases (o4 a).mp ha with y' | y'
        · exact .inl ((ow a).mpr (.inl y'))
        · rcases List.mem_cons.mp y' with y' | y'
          · exact .inl ((ow a).mpr (.inr (List.mem_cons.mpr (.inl y'))))
          · rcases List.mem_append.mp y' with y' | y'
            · exact .inl ((ow a).mpr (.inr (List.mem_cons_of_mem _ y')))
            · refine .inr ?_
              obtain rfl : a = Dn := by simpa using y'
              exact nD0
    · rw [hw] at g2; cases g2
end
end Vs
namespace Vs
open PySem PySem.Spec L2
theorem dataK_encL {κ A : Type} (g : κ → Key) (f : A → Dt) : ∀ kvs : List (κ × List A), dataK (encL g f kvs) = some (encK g (fun z => .lst (z.map f)) kvs)
  | [] => by simp only [encL, encK, List.map_nil, dataK]
  | z :: r => by
    have ih := dataK_encL g f r
    unfold encL encK at ih ⊢
    simp only [List.map_cons, dataK, Cell.data]
    rw [ih]
theorem data_oc {κ A : Type} (g : κ → Key) (f : A → Dt) (kvs : List (κ × List A)) : (Cell.oc (encL g f kvs)).data = some (.dic (encK g (fun z => .lst (z.map f)) kvs)) := by
  simp only [Cell.data]
  rw [dataK_encL]
  rfl
end Vs

/-! x in a list of whatever data; str(i); a call whose answer is dropped. -/
namespace Vs
open PySem PySem.Spec L2
def anyEq {A : Type} [BEq A] (ys : List A) (x : A) : Bool := ys.any fun z => z == x
theorem anyEq_py {A : Type} [BEq A] {f : A → Dt} {n : Nat} (q : EqT f n) (x : A) : ∀ ys : List A, ((Dt.pyL (ys.map f)).any fun z => PyData.eqv z (f x).py) = anyEq ys x
  | [] => rfl
  | y :: ys => by
    show (PyData.eqv (f y).py (f x).py || (Dt.pyL (ys.map f)).any fun z => PyData.eqv z (f x).py) = anyEq (y :: ys) x
    rw [q.eq, anyEq_py q x ys]
    rfl
section
variable {I : Type} {X : I → Cx} {K : PySem.W.Frag} {G : Env}
theorem says_inD {A : Type} [BEq A] {f : A → Dt} {n : Nat} (hu : ∀ j, (X j).A.units + 65 < cLine) (hK : ∀ j, (X j).K = K) (q : EqT f n) (hn : n ≤ 60) (x : A) (ys : List A) : Says X K .In (f x) (.lst (ys.map f)) (anyEq ys x) :=
  ⟨rInD K, fun j => hK j ▸ op_inD (hu j), fun F H v w Q u r1 r2 k => by
    have e1 : EqD (f x) (f x) (x == x) := q.d (by omega) x x
    have e2 : EqD (.lst (ys.map f)) (.lst (ys.map f)) (ys == ys) := (eqt_lst q).d (by omega) ys ys
    have d2 := r2.dp u e2.fx
    have s2 := e2.shx r2
    have ep : (Dt.lst (ys.map f)).py = .list (Dt.pyL (ys.map f)) := by simp only [Dt.py]
    rw [ep] at d2 s2
    exact ⟨(f x).py, _, r1.dp u e1.fx, d2, e1.shx r1, s2, by rw [anyEq_py q]; exact k⟩⟩
theorem says_niD {A : Type} [BEq A] {f : A → Dt} {n : Nat} (hu : ∀ j, (X j).A.units + 65 < cLine) (hK : ∀ j, (X j).K = K) (q : EqT f n) (hn : n ≤ 60) (x : A) (ys : List A) : Says X K .NotIn (f x) (.lst (ys.map f)) (!anyEq ys x) :=
  ⟨rNotInD K, fun j => hK j ▸ op_notInD (hu j), fun F H v w Q u r1 r2 k => by
    have e1 : EqD (f x) (f x) (x == x) := q.d (by omega) x x
    have e2 : EqD (.lst (ys.map f)) (.lst (ys.map f)) (ys == ys) := (eqt_lst q).d (by omega) ys ys
    have d2 := r2.dp u e2.fx
    have s2 := e2.shx r2
    have ep : (Dt.lst (ys.map f)).py = .list (Dt.pyL (ys.map f)) := by simp only [Dt.py]
    rw [ep] at d2 s2
    exact ⟨(f x).py, _, r1.dp u e1.fx, d2, e1.shx r1, s2, by rw [anyEq_py q]; exact k⟩⟩
end
theorem op_eqNil {X : Cx} (K : PySem.W.Frag) (hK : X.K = K) (hu : X.A.units + 64 < cLine) : OpR X (compareOp .Eq) (fun x y H Q => ∃ a b vs, x = .ref a ∧ y = .ref b ∧ SqL K H a vs ∧ SqL K H b [] ∧ Q (.bl vs.isEmpty) H) := by
  intro pins s σ H x y v u Q I rx ry h
  obtain ⟨a, b, vs, rfl, rfl, ea, eb, q⟩ := h
  subst hK
  obtain rfl : v = Value.ref a := rx
  obtain rfl : u = Value.ref b := ry
  obtain ⟨us, r1, p1, _⟩ := I.list (a := a) (xs := vs) ea
  obtain ⟨ws, r2, p2, _⟩ := I.list (a := b) (xs := []) eb
  cases r2
  cases vs with
  | nil =>
    cases r1
    refine SeqAt.RcAt.lists (e := fun _ => true) p1.isList p2.isList rfl (by omega) (fun j h1 h2 => absurd h1 (Nat.not_lt_zero _)) _ _ _ _ ?_
    exact ⟨.bl true, H, I, rfl, q⟩
  | cons v vs =>
    cases r1 with
    | cons a1 b1 =>
      refine SeqAt.RcAt.lists_lengths p1.isList p2.isList (by simp) (by omega) _ _ _ _ ?_
      exact ⟨.bl false, H, I, rfl, q⟩
theorem op_neNil {X : Cx} (K : PySem.W.Frag) (hK : X.K = K) (hu : X.A.units + 64 < cLine) : OpR X (compareOp .NotEq) (fun x y H Q => ∃ a b vs, x = .ref a ∧ y = .ref b ∧ SqL K H a vs ∧ SqL K H b [] ∧ Q (.bl (!vs.isEmpty)) H) := by
  intro pins s σ H x y v u Q I rx ry h
  obtain ⟨a, b, vs, rfl, rfl, ea, eb, q⟩ := h
  subst hK
  obtain rfl : v = Value.ref a := rx
  obtain rfl : u = Value.ref b := ry
  obtain ⟨us, r1, p1, _⟩ := I.list (a := a) (xs := vs) ea
  obtain ⟨ws, r2, p2, _⟩ := I.list (a := b) (xs := []) eb
  cases r2
  cases vs with
  | nil =>
    cases r1
    refine SeqAt.RcNeAt.lists (e := fun _ => true) p1.isList p2.isList rfl (by omega) (fun j h1 h2 => absurd h1 (Nat.not_lt_zero _)) _ _ _ _ ?_
    exact ⟨.bl false, H, I, rfl, q⟩
  | cons v vs =>
    cases r1 with
    | cons a1 b1 =>
      refine SeqAt.RcNeAt.lists_lengths p1.isList p2.isList (by simp) (by omega) _ _ _ _ ?_
      exact ⟨.bl true, H, I, rfl, q⟩
section
variable {I : Type} {X : I → Cx} {K : PySem.W.Frag} {G : Env}
theorem nil_len {K : PySem.W.Frag} {F : Hp} {A : Type} {f : A → Dt} {xs : List A} {vs : List V} (r : RepL K F vs (xs.map f)) : vs.isEmpty = xs.isEmpty := by
  cases xs with
  | nil => cases r; rfl
  | cons x xs => cases r; rfl
theorem says_eqNil {A : Type} {f : A → Dt} (hu : ∀ j, (X j).A.units + 64 < cLine) (hK : ∀ j, (X j).K = K) (xs : List A) : Says X K .Eq (.lst (xs.map f)) (.lst []) xs.isEmpty :=
  ⟨_, fun j => op_eqNil K (hK j) (hu j), fun F H v w Q u r1 r2 k => by
    cases r1 with
    | lst h1 _ l1 =>
      cases r2 with
      | lst h2 _ l2 =>
        cases l2
        exact ⟨_, _, _, rfl, rfl, SqL.of (u.lst h1), SqL.of (u.lst h2), by rw [nil_len l1]; exact k⟩⟩
theorem says_neNil {A : Type} {f : A → Dt} (hu : ∀ j, (X j).A.units + 64 < cLine) (hK : ∀ j, (X j).K = K) (xs : List A) : Says X K .NotEq (.lst (xs.map f)) (.lst []) (!xs.isEmpty) :=
  ⟨_, fun j => op_neNil K (hK j) (hu j), fun F H v w Q u r1 r2 k => by
    cases r1 with
    | lst h1 _ l1 =>
      cases r2 with
      | lst h2 _ l2 =>
        cases l2
        exact ⟨_, _, _, rfl, rfl, SqL.of (u.lst h1), SqL.of (u.lst h2), by rw [nil_len l1]; exact k⟩⟩
def strI (i : Int) : Str := Str.ofString (toString i)
def strIOk (i : Int) : Prop := i.natAbs.log2 < 1920 ∧ goodB (strI i) = true
theorem ex_strI {e : Expr} {p pos : Pos} {i : Int} (h : EX X K G e (.int i)) (hz : strIOk i) (hg : ∀ j, Gl (X j) "str") (hm : ∀ j, (X j).mg "str" = none)
    (he : ∀ j, starEach [e] (X j).env = [(false, eval e (X j).env)] := by intro _; rfl) : EX X K G (.Call (.Name "str" p) [e] [] pos) (.str (strI i)) := fun F H σ fps Q k q =>
  ⟨tCB _ (tCons (wpE X e) tNil), fun j => pe_callTy call_str_int (hg j) (hm j) (by decide +kernel) (pa_cons (pe_wp j) pa_nil (he j)) (by decide) (by decide) (he j) rfl, h F H σ fps _ k fun F1 H1 v u r => by
    cases r
    exact ⟨i, rfl, hz.1, q F1 H1 _ u (.str _ hz.2)⟩⟩
end
theorem units5 {A : Around} {k : Nat} (hr : Room k A) : A.units + 65 < cLine := by have := hr.un; omega
end Vs

/-! for over reversed(xs) and zip(xs, ys); texts between texts. -/
namespace Vs
open PySem PySem.Spec L2
section
variable {X : Cx} {K : PySem.W.Frag} {G : Env} {tg : Expr}
/-- reversed(list) -/
theorem src_rev {A : Type} {e : Expr} {p pos : Pos} {xs : List A} (f : A → Dt) (hK : X.K = K) (hg : Gl X "reversed") (hm : X.mg "reversed" = none) (h : EX (one X) K G e (.lst (xs.map f))) (hsa : starEach [e] X.env = [(false, eval e X.env)] := by rfl)
    (hs : ∀ x, foldedSetIterable (.Call (.Name "reversed" p) [e] [] pos) X.env x = pure x := by intro _; rfl) : ISrc X K G tg (.Call (.Name "reversed" p) [e] [] pos) (xs.reverse.map f) :=
  ⟨iRev X.K (tCons (wpE (one X) e) tNil), pi_reversed hg hm (pa_cons pe_w1 pa_nil hsa) hsa, hs, fun F H σ fps R E q => h F H σ fps _ E fun F1 H1 v u r => by
    cases r with
    | lst h1 l1 r1 =>
      rename_i a vs
      rw [hK]
      have hl := r1.len
      rw [List.length_map] at hl
      refine ⟨a, vs, rfl, SqL.of (u.sb.lst h1), q _ F1 H1 u ⟨fun i F' H' e s _ hi => ?_, fun i F' H' e s _ hi => ?_, fun i d F' H' v H'' e s _ hd hy => ?_⟩⟩
      · rw [List.length_map, List.length_reverse] at hi
        show vs.length ≤ i
        omega
      · rw [List.length_map, List.length_reverse] at hi
        refine ⟨by omega, vs, vs[vs.length - 1 - i]'(by omega), SqL.of (s.lst (e _ _ h1)), by simp [show vs.length - 1 - i < vs.length by omega]⟩
      · obtain ⟨rfl, hv⟩ := hy
        have hi : i < xs.length := by
          have := (List.getElem?_eq_some_iff.mp hd).1
          rw [List.length_map, List.length_reverse] at this
          exact this
        have hd2 : (xs.map f)[vs.length - 1 - i]? = some d := by
          rw [List.map_reverse, List.getElem?_reverse (by rw [List.length_map]; exact hi), List.length_map] at hd
          rw [hl]; exact hd
        obtain ⟨w, h2, h3⟩ := r1.get hd2
        have := hv vs (SqL.of (s.lst (e _ _ h1)))
        rw [h2] at this; cases this
        exact ⟨F', Up.refl s, h3.mono e⟩⟩
/-- zip(list, list) -/
theorem src_zip {A B : Type} {e e2 : Expr} {p pos tpos : Pos} {elts : List Expr} {kk : Nat} {xs : List A} {ys : List B} (f : A → Dt) (g : B → Dt) (hK : X.K = K) (hg : Gl X "zip") (hm : X.mg "zip" = none) (h : EX (one X) K G e (.lst (xs.map f))) (h' : EX (one X) K G e2 (.lst (ys.map g)))
    (hsa : starEach [e, e2] X.env = [(false, eval e X.env), (false, eval e2 X.env)] := by rfl) (hsb : starEach [e2] X.env = [(false, eval e2 X.env)] := by rfl)
    (hs1 : starEach [e, e2] X.env = (false, eval e X.env) :: starEach [e2] X.env := by rfl) (hpl : (backTo pos (starEach [e2] X.env)).any (·.1) = false := by rfl)
    (hs : ∀ x, foldedSetIterable (.Call (.Name "zip" p) [e, e2] [] pos) X.env x = pure x := by intro _; rfl) : ISrc X K G (.Tuple elts kk tpos) (.Call (.Name "zip" p) [e, e2] [] pos) ((List.zip xs ys).map fun z : A × B => Dt.tup [f z.1, g z.2]) :=
  ⟨iZip X.K (tCons (wpE (one X) e) (tCons (wpE (one X) e2) tNil)), pi_zip hg hm (pa_cons pe_w1 (pa_cons pe_w1 pa_nil hsb) (by rw [hsa, hsb])) hs1 hpl, hs, fun F H σ fps R E q => h F H σ fps _ E fun F0 H0 v0 u0 r0 => h' F0 H0 σ fps _ (E.up u0) fun F1 H1 v u r => by
    cases r0 with
    | lst h0 l0 r0 =>
      rename_i b ws
      cases r with
      | lst h1 l1 r1 =>
        rename_i a vs
        rw [hK]
        have g0 := u.fr _ _ h0
        have r0' := r0.mono u.fr
        have hl := r1.len
        have hl0 := r0.len
        rw [List.length_map] at hl hl0
        refine ⟨b, a, ws, vs, rfl, SqL.of (u.sb.lst g0), SqL.of (u.sb.lst h1), q _ F1 H1 (u0.trans u) ⟨fun i F' H' e s _ hi => ?_, fun i F' H' e s _ hi => ?_, fun i d F' H' v H'' e s _ hd hy => ?_⟩⟩
        · rw [List.length_map, List.length_zip] at hi
          exact ⟨ws, vs, SqL.of (s.lst (e _ _ g0)), SqL.of (s.lst (e _ _ h1)), by omega⟩
        · rw [List.length_map, List.length_zip] at hi
          exact ⟨ws, vs, ws[i]'(by omega), vs[i]'(by omega), SqL.of (s.lst (e _ _ g0)), SqL.of (s.lst (e _ _ h1)), by simp [show i < ws.length by omega], by simp [show i < vs.length by omega]⟩
        · obtain ⟨T, x, y, rfl, hT, rfl, hx, hy⟩ := hy
          have hi : i < xs.length ∧ i < ys.length := by
            have := (List.getElem?_eq_some_iff.mp hd).1
            rw [List.length_map, List.length_zip] at this
            omega
          have hx' := hx ws (SqL.of (s.lst (e _ _ g0)))
          have hy' := hy vs (SqL.of (s.lst (e _ _ h1)))
          have ex : (xs.map f)[i]? = some (f xs[i]) := by simp [hi.1]
          have ey : (ys.map g)[i]? = some (g ys[i]) := by simp [hi.2]
          obtain ⟨w1, a1, a2⟩ := r0'.get ex
          obtain ⟨w2, b1, b2⟩ := r1.get ey
          rw [a1] at hx'; cases hx'
          rw [b1] at hy'; cases hy'
          have hd2 : d = Dt.tup [f xs[i], g ys[i]] := by
            have hz : (List.zip xs ys)[i]? = some (xs[i], ys[i]) := by rw [List.getElem?_zip_eq_some]; exact ⟨by simp [hi.1], by simp [hi.2]⟩
            rw [List.getElem?_map, hz] at hd
            cases hd; rfl
          subst hd2
          have nF : F' T = none := s.none hT
          exact ⟨upd F' T (.tup [x, y]), Up.lay s hT, .tup upd_same (Nat.le_of_ble_eq_true rfl) (.cons ((a2.mono e).mono (Ex.new nF)) (.cons ((b2.mono e).mono (Ex.new nF)) .nil))⟩⟩
end
/-! texts between texts -/
def leS (i j : Str) : Bool := !decide (j.cps.toList < i.cps.toList)
section
variable {I : Type} {X : I → Cx} {K : PySem.W.Frag} {G : Env}
theorem says_leS {i j : Str} : Says X K .LtE (.str i) (.str j) (leS i j) := ⟨_, fun _ => op_le_str, fun F H v w Q u r1 r2 q => by
  cases r1; cases r2
  exact ⟨i, j, rfl, rfl, q⟩⟩
abbrev rLeS : R2 := fun x y H Q => ∃ i j, x = .str i ∧ y = .str j ∧ Q (.bl (leS i j)) H
theorem ex_leLeS {a b c : Expr} {pos : Pos} {i j k : Str} (ha : EX X K G a (.str i)) (hb : EX X K G b (.str j)) (hc : EX X K G c (.str k)) (hm : lastMarks [.LtE, .LtE] [b, c] = false := by rfl) : EX X K G (.Compare a [.LtE, .LtE] [b, c] pos) (.bl (leS i j && leS j k)) := fun F H σ fps Q e q =>
  ⟨tChain rLeS rLeS (wpE X a) (wpE X b) (wpE X c), fun n => pe_chain op_le_str op_le_str (pe_wp n) (pe_wp n) (pe_wp n) hm, ha F H σ fps _ e fun F1 H1 v u r => hb F1 H1 σ fps _ (e.up u) fun F2 H2 v2 u2 r2 => by
    cases r; cases r2
    refine ⟨i, j, rfl, rfl, leS i j, rfl, ?_⟩
    cases hf : leS i j with
    | true =>
      show wpE X c σ H2 _
      refine hc F2 H2 σ fps _ ((e.up u).up u2) fun F3 H3 v3 u3 r3 => ?_
      cases r3
      refine ⟨j, k, rfl, rfl, ?_⟩
      have := q F3 H3 (.bl (leS i j && leS j k)) ((u.trans u2).trans u3) (.bl _)
      rw [hf] at this
      exact this
    | false =>
      show Q (.bl false) H2
      have := q F2 H2 (.bl (leS i j && leS j k)) (u.trans u2) (.bl _)
      rw [hf] at this
      exact this⟩
theorem eb_leLeS {a b c : Expr} {pos : Pos} {i j k : Str} (ha : EX X K G a (.str i)) (hb : EX X K G b (.str j)) (hc : EX X K G c (.str k)) (hm : lastMarks [.LtE, .LtE] [b, c] = false := by rfl) : EB X K G (.Compare a [.LtE, .LtE] [b, c] pos) (leS i j && leS j k) := fun F H σ fps Q e q =>
  ⟨fun σ H Q => tChain rLeS rLeS (wpE X a) (wpE X b) (wpE X c) σ H fun z H' => ∃ k, z = .bl k ∧ Q k H', fun n => pt_chain op_le_str op_le_str (pe_wp n) (pe_wp n) (pe_wp n) hm, ha F H σ fps _ e fun F1 H1 v u r => hb F1 H1 σ fps _ (e.up u) fun F2 H2 v2 u2 r2 => by
    cases r; cases r2
    refine ⟨i, j, rfl, rfl, leS i j, rfl, ?_⟩
    cases hf : leS i j with
    | true =>
      show wpE X c σ H2 _
      refine hc F2 H2 σ fps _ ((e.up u).up u2) fun F3 H3 v3 u3 r3 => ?_
      cases r3
      refine ⟨j, k, rfl, rfl, ?_⟩
      have := q F3 H3 ((u.trans u2).trans u3)
      rw [hf] at this
      exact ⟨_, rfl, this⟩
    | false =>
      have := q F2 H2 (u.trans u2)
      rw [hf] at this
      exact ⟨_, rfl, this⟩⟩
end
end Vs

/-! Plain laws: dicts as maps; loops as folds; what becomes sure, round by round. -/
namespace Vs
open PySem PySem.Spec L2
section
variable {κ A : Type} [DecidableEq κ]
theorem gets_puts_same (k : κ) (a : A) : ∀ d : List (κ × A), gets (puts d k a) k = some a
  | [] => by simp [puts, gets]
  | p :: r => by
    unfold puts
    split
    · rename_i e; simp [gets, e]
    · rename_i e; simp [gets, e, gets_puts_same k a r]
theorem gets_puts_ne {k j : κ} (a : A) (h : j ≠ k) : ∀ d : List (κ × A), gets (puts d k a) j = gets d j
  | [] => by simp [puts, gets, Ne.symm h]
  | p :: r => by
    unfold puts
    split
    · rename_i e
      have : ¬ p.1 = j := fun z => h (z.symm.trans e)
      simp [gets, this]
    · rename_i e
      simp [gets, gets_puts_ne a h r]
theorem puts_idem {k : κ} {a : A} : ∀ {d : List (κ × A)}, gets d k = some a → puts d k a = d
  | [], h => by cases h
  | p :: r, h => by
    unfold gets at h
    unfold puts
    split at h
    · rename_i e
      cases h
      rw [if_pos e]
    · rename_i e
      rw [if_neg e, puts_idem h]
theorem gets_none_iff {k : κ} : ∀ {d : List (κ × A)}, gets d k = none ↔ k ∉ d.map (·.1)
  | [] => by simp [gets]
  | p :: r => by
    unfold gets
    split
    · rename_i e; simp [e]
    · rename_i e
      rw [gets_none_iff (d := r), List.map_cons, List.mem_cons, not_or]
      exact ⟨fun h => ⟨fun z => e z.symm, h⟩, fun h => h.2⟩
theorem hasK_iff {k : κ} {d : List (κ × A)} : hasK d k = true ↔ k ∈ d.map (·.1) := by
  unfold hasK
  cases e : gets d k with
  | none => simp [gets_none_iff.mp e]
  | some a =>
    have : k ∈ d.map (·.1) := by
      by_cases h : k ∈ d.map (·.1)
      · exact h
      · rw [gets_none_iff.mpr h] at e; cases e
    simp [this]
theorem puts_fst_in {k : κ} {a : A} : ∀ {d : List (κ × A)}, k ∈ d.map (·.1) → (puts d k a).map (·.1) = d.map (·.1)
  | [], h => by simp at h
  | p :: r, h => by
    unfold puts
    split
    · rfl
    · rename_i e
      rw [List.map_cons, List.mem_cons] at h
      rcases h with h | h
      · exact absurd h.symm e
      · rw [List.map_cons, List.map_cons, puts_fst_in h]
theorem puts_fst_out {k : κ} {a : A} : ∀ {d : List (κ × A)}, k ∉ d.map (·.1) → (puts d k a).map (·.1) = d.map (·.1) ++ [k]
  | [], _ => rfl
  | p :: r, h => by
    rw [List.map_cons, List.mem_cons, not_or] at h
    unfold puts
    rw [if_neg (fun z => h.1 z.symm), List.map_cons, List.map_cons, puts_fst_out h.2]
    rfl
theorem gets_mem_nodup {p : κ × A} : ∀ {d : List (κ × A)}, (d.map (·.1)).Nodup → p ∈ d → gets d p.1 = some p.2
  | [], _, h => by simp at h
  | q :: r, nd, h => by
    rw [List.map_cons, List.nodup_cons] at nd
    unfold gets
    rcases List.mem_cons.mp h with h | h
    · subst h; rw [if_pos rfl]
    · have : ¬ q.1 = p.1 := fun z => nd.1 (by rw [z]; exact List.mem_map.mpr ⟨p, h, rfl⟩)
      rw [if_neg this, gets_mem_nodup nd.2 h]
/-- the keys are unlike, and among U -/
structure Kd (U : List κ) (d : List (κ × A)) : Prop where
  nd : (d.map (·.1)).Nodup
  sb : ∀ k ∈ d.map (·.1), k ∈ U
theorem Kd.nil {U : List κ} : Kd U ([] : List (κ × A)) := ⟨List.nodup_nil, fun k h => by simp at h⟩
theorem Kd.put {U : List κ} {d : List (κ × A)} (h : Kd U d) {k : κ} {a : A} (hk : k ∈ U) : Kd U (puts d k a) := by
  refine ⟨puts_nodup h.nd, fun j hj => ?_⟩
  obtain ⟨z, hz, rfl⟩ := List.mem_map.mp hj
  rcases mem_puts hz with rfl | hz
  · exact hk
  · exact h.sb _ (List.mem_map.mpr ⟨z, hz, rfl⟩)
theorem nodup_le : ∀ {l U : List κ}, l.Nodup → (∀ x ∈ l, x ∈ U) → l.length ≤ U.length
  | [], U, _, _ => Nat.zero_le _
  | x :: l, U, nd, h => by
    rw [List.nodup_cons] at nd
    have hx := h x (by simp)
    have := nodup_le (U := U.erase x) nd.2 fun y hy => (List.mem_erase_of_ne (fun z => nd.1 (by rw [← z]; exact hy))).mpr (h y (List.mem_cons_of_mem _ hy))
    rw [List.length_erase_of_mem hx] at this
    have h1 : 1 ≤ U.length := List.length_pos_of_mem hx
    rw [List.length_cons]
    omega
theorem Kd.len {U : List κ} {d : List (κ × A)} (h : Kd U d) : d.length ≤ U.length := by
  have := nodup_le h.nd h.sb
  rw [List.length_map] at this
  exact this
/-- alike as maps -/
theorem dEq_of [BEq A] [LawfulBEq A] {xs ys : List (κ × A)} (nx : (xs.map (·.1)).Nodup) (ny : (ys.map (·.1)).Nodup) (h : ∀ k, gets xs k = gets ys k) : dEq xs ys = true := by
  have hm : ∀ k, k ∈ xs.map (·.1) ↔ k ∈ ys.map (·.1) := fun k => by rw [← hasK_iff, ← hasK_iff]; unfold hasK; rw [h k]
  have e1 := nodup_le nx fun k hk => (hm k).mp hk
  have e2 := nodup_le ny fun k hk => (hm k).mpr hk
  rw [List.length_map, List.length_map] at e1 e2
  unfold dEq
  rw [show xs.length = ys.length by omega, beq_self_eq_true, Bool.true_and]
  have go : ∀ l : List (κ × A), (∀ p ∈ l, p ∈ xs) → dAll ys l = true := by
    intro l
    induction l with
    | nil => intro _; rfl
    | cons p r ih =>
      intro hl
      unfold dAll
      have g := gets_mem_nodup nx (hl p (by simp))
      rw [h p.1] at g
      rw [g]
      show (p.2 == p.2 && dAll ys r) = true
      rw [beq_self_eq_true, ih fun q hq => hl q (List.mem_cons_of_mem _ hq)]
      rfl
  exact go xs fun p hp => hp
end
/-! loops as folds -/
theorem loop_fold {A S T R : Type} {step : S → A → Step S R} {io : R → T} {k : S → T} {P : S → A → Prop} {Q : S → Prop} (f : S → A → S) (Inv : S → Prop) : ∀ {xs : List A} {s : S}, Inv s → (∀ s x, x ∈ xs → Inv s → P s x ∧ step s x = .nx (f s x) ∧ Inv (f s x)) → (Inv (xs.foldl f s) → Q (xs.foldl f s)) →
    LoopAll P Q step xs s ∧ loop step io k xs s = k (xs.foldl f s) ∧ Inv (xs.foldl f s)
  | [], s, h0, _, hq => ⟨hq h0, rfl, h0⟩
  | x :: xs, s, h0, hs, hq => by
    obtain ⟨hp, e, h1⟩ := hs s x (by simp) h0
    obtain ⟨a, b, c⟩ := loop_fold (io := io) (k := k) (P := P) (Q := Q) f Inv (xs := xs) (s := f s x) h1 (fun t y hy ht => hs t y (List.mem_cons_of_mem _ hy) ht) hq
    refine ⟨⟨hp, ?_⟩, ?_, c⟩
    · rw [e]; exact a
    · unfold loop; rw [e]; exact b
theorem loop_foldi {A S T R : Type} {step : S → A → Step S R} {io : R → T} {k : S → T} {P : S → A → Prop} {Q : S → Prop} (f : S → A → S) (Inv : Nat → S → Prop) : ∀ {xs : List A} {i0 : Nat} {s : S}, Inv i0 s → (∀ i s x, x ∈ xs → i < i0 + xs.length → Inv i s → P s x ∧ step s x = .nx (f s x) ∧ Inv (i + 1) (f s x)) → (Inv (i0 + xs.length) (xs.foldl f s) → Q (xs.foldl f s)) →
    LoopAll P Q step xs s ∧ loop step io k xs s = k (xs.foldl f s) ∧ Inv (i0 + xs.length) (xs.foldl f s)
  | [], i0, s, h0, _, hq => ⟨hq h0, rfl, h0⟩
  | x :: xs, i0, s, h0, hs, hq => by
    have e0 : i0 + (x :: xs).length = i0 + 1 + xs.length := by rw [List.length_cons]; omega
    rw [e0] at hs hq ⊢
    obtain ⟨hp, e, h1⟩ := hs i0 s x (by simp) (by omega) h0
    obtain ⟨a, b, c⟩ := loop_foldi (io := io) (k := k) (P := P) (Q := Q) f Inv (xs := xs) (i0 := i0 + 1) (s := f s x) h1 (fun i t y hy hi ht => hs i t y (List.mem_cons_of_mem _ hy) hi ht) hq
    refine ⟨⟨hp, ?_⟩, ?_, c⟩
    · rw [e]; exact a
    · unfold loop; rw [e]; exact b
theorem itm_in {A : Type} [Inhabited A] {xs : List A} {j : Int} (h0 : 0 ≤ j) (h1 : j < xs.length) : itm xs j ∈ xs := by
  rw [itm_nn h0 h1, List.getD_eq_getElem?_getD, List.getElem?_eq_getElem (by omega)]
  exact List.getElem_mem _
/-! what becomes sure -/
abbrev Ru := Bool × Str × List Str
abbrev Th := List (Str × Bool)
abbrev Rk := List (Str × Int)
def okR (t : Th) (a : Ru) : Bool := a.1 && (!hasK t a.2.1 && a.2.2.all fun q => hasK t q)
/-- the heads that come in a round -/
def heads (rs : List Ru) (t : Th) : List Str := (rs.filter (okR t)).map fun a => a.2.1
def putT (d : Th) (h : Str) : Th := puts d h true
def putB (c : Int) (s : Th × Rk) (h : Str) : Th × Rk := (puts s.1 h true, puts s.2 h c)
def uniq (hs : List Str) : List Str := (hs.foldl putT []).map Prod.fst
theorem fold_heads {A S : Type} (v : A → Ru) (t : Th) (g : S → Str → S) : ∀ (rs : List A) (d : S), (rs.foldl (fun d x => cond (okR t (v x)) (g d (v x).2.1) d) d) = (heads (rs.map v) t).foldl g d
  | [], d => rfl
  | x :: rs, d => by
    rw [List.foldl_cons, fold_heads v t g rs, List.map_cons]
    unfold heads
    rw [List.filter_cons]
    cases okR t (v x) <;> rfl
theorem putB_mem {c : Int} {h : Str} : ∀ {hs : List Str} {s : Th × Rk}, (h ∈ hs ∨ gets s.1 h = some true ∧ gets s.2 h = some c) → gets (hs.foldl (putB c) s).1 h = some true ∧ gets (hs.foldl (putB c) s).2 h = some c
  | [], s, h => by
    rcases h with h | h
    · simp at h
    · exact h
  | x :: hs, s, h' => by
    rw [List.foldl_cons]
    refine putB_mem ?_
    by_cases e : h = x
    · subst e
      exact .inr ⟨gets_puts_same _ _ _, gets_puts_same _ _ _⟩
    · rcases h' with h' | ⟨h1, h2⟩
      · rcases List.mem_cons.mp h' with h' | h'
        · exact absurd h' e
        · exact .inl h'
      · refine .inr ⟨?_, ?_⟩
        · show gets (puts s.1 x true) h = _
          rw [gets_puts_ne _ e, h1]
        · show gets (puts s.2 x c) h = _
          rw [gets_puts_ne _ e, h2]
theorem putB_out {c : Int} {h : Str} : ∀ {hs : List Str} {s : Th × Rk}, h ∉ hs → gets (hs.foldl (putB c) s).1 h = gets s.1 h ∧ gets (hs.foldl (putB c) s).2 h = gets s.2 h
  | [], s, _ => ⟨rfl, rfl⟩
  | x :: hs, s, h' => by
    rw [List.mem_cons, not_or] at h'
    rw [List.foldl_cons]
    obtain ⟨a, b⟩ := putB_out (c := c) (hs := hs) (s := putB c s x) h'.2
    rw [a, b]
    exact ⟨gets_puts_ne _ h'.1 _, gets_puts_ne _ h'.1 _⟩
theorem uniq_go (c : Int) (s : Th × Rk) : ∀ (hs : List Str) (d : Th), ((hs.foldl putT d).map Prod.fst).foldl (putB c) s = hs.foldl (putB c) ((d.map Prod.fst).foldl (putB c) s)
  | [], d => rfl
  | h :: hs, d => by
    rw [List.foldl_cons, List.foldl_cons, uniq_go c s hs (putT d h)]
    congr 1
    unfold putT
    by_cases e : h ∈ d.map (·.1)
    · have e1 : (puts d h true).map Prod.fst = d.map Prod.fst := puts_fst_in e
      rw [e1]
      obtain ⟨a, b⟩ := putB_mem (c := c) (hs := d.map Prod.fst) (s := s) (.inl e)
      unfold putB at a b ⊢
      rw [puts_idem a, puts_idem b]
    · have e1 : (puts d h true).map Prod.fst = d.map Prod.fst ++ [h] := puts_fst_out e
      rw [e1, List.foldl_append]
      rfl
/-- each once is as good -/
theorem uniq_fold (c : Int) (s : Th × Rk) (hs : List Str) : (uniq hs).foldl (putB c) s = hs.foldl (putB c) s := uniq_go c s hs []
theorem putT_nil : ∀ (hs : List Str) (d : Th), (hs.foldl putT d = [] ↔ hs = [] ∧ d = [])
  | [], d => by simp
  | h :: hs, d => by
    rw [List.foldl_cons, putT_nil hs]
    have : putT d h ≠ [] := by
      unfold putT
      cases d with
      | nil => simp [puts]
      | cons p r => unfold puts; split <;> simp
    simp [this]
theorem uniq_nil (hs : List Str) : (uniq hs == []) = (hs == []) := by
  unfold uniq
  have := putT_nil hs []
  cases hs with
  | nil => rfl
  | cons h t =>
    have ne : List.foldl putT [] (h :: t) ≠ [] := fun z => by have := this.mp z; simp at this
    cases e : List.foldl putT [] (h :: t) with
    | nil => exact absurd e ne
    | cons p r => rfl
/-- how many rules wait -/
def waits (rs : List Ru) (t : Th) : Nat := (rs.filter fun a => !hasK t a.2.1).length
theorem filter_le {A : Type} {p q : A → Bool} (h : ∀ x, q x = true → p x = true) : ∀ l : List A, (l.filter q).length ≤ (l.filter p).length
  | [] => Nat.le_refl _
  | x :: l => by
    have ih := filter_le h l
    rw [List.filter_cons, List.filter_cons]
    cases e : q x with
    | true => rw [h x e]; simpa using ih
    | false =>
      cases p x with
      | true => simp only [if_true, List.length_cons, Bool.false_eq_true, if_false]; omega
      | false => simpa using ih
theorem filter_lt {A : Type} {p q : A → Bool} (h : ∀ x, q x = true → p x = true) {a : A} : ∀ {l : List A}, a ∈ l → p a = true → q a = false → (l.filter q).length < (l.filter p).length
  | [], ha, _, _ => by simp at ha
  | x :: l, ha, hp, hq => by
    rw [List.filter_cons, List.filter_cons]
    rcases List.mem_cons.mp ha with rfl | ha
    · rw [hp, hq]
      have := filter_le h l
      simp only [if_true, List.length_cons, Bool.false_eq_true, if_false]; omega
    · have ih := filter_lt h ha hp hq
      cases e : q x with
      | true => rw [h x e]; simpa using ih
      | false =>
        cases p x with
        | true => simp only [if_true, List.length_cons, Bool.false_eq_true, if_false]; omega
        | false => simpa using ih
theorem waits_lt {rs : List Ru} {s : Th × Rk} {c : Int} (h : heads rs s.1 ≠ []) : waits rs ((heads rs s.1).foldl (putB c) s).1 < waits rs s.1 := by
  obtain ⟨x, hx⟩ := List.exists_mem_of_ne_nil _ h
  have hx0 := hx
  unfold heads at hx
  obtain ⟨a, ha, rfl⟩ := List.mem_map.mp hx
  obtain ⟨a1, a2⟩ := List.mem_filter.mp ha
  unfold okR at a2
  simp only [Bool.and_eq_true] at a2
  refine filter_lt (fun b hb => ?_) a1 a2.2.1 ?_
  · by_cases e : b.2.1 ∈ heads rs s.1
    · have := (putB_mem (c := c) (s := s) (.inl e)).1
      unfold hasK at hb
      rw [this] at hb; cases hb
    · unfold hasK at hb ⊢
      rw [(putB_out (c := c) (s := s) e).1] at hb
      exact hb
  · unfold hasK
    rw [(putB_mem (c := c) (s := s) (.inl hx0)).1]; rfl
/-- the rounds: so many at most, the next one's number, what is there and the ranks -/
def sureGo (rs : List Ru) : Nat → Int → Th × Rk → Th × Rk
  | 0, _, s => s
  | n + 1, c, s => cond (heads rs s.1 == []) s (sureGo rs n (c + 1) ((heads rs s.1).foldl (putB c) s))
theorem sureGo_stop {rs : List Ru} {s : Th × Rk} (h : heads rs s.1 = []) (n : Nat) (c : Int) : sureGo rs n c s = s := by
  cases n with
  | zero => rfl
  | succ n => unfold sureGo; rw [h]; rfl
theorem waits_le (rs : List Ru) (t : Th) : waits rs t ≤ rs.length := List.length_filter_le _ _
theorem heads_nil_of {rs : List Ru} {t : Th} (h : waits rs t = 0) : heads rs t = [] := by
  cases e : heads rs t with
  | nil => rfl
  | cons x l =>
    have := waits_lt (rs := rs) (s := (t, [])) (c := 0) (by rw [e]; simp)
    rw [show waits rs (t, ([] : Rk)).1 = 0 from h] at this
    omega
theorem heads_mem {rs : List Ru} {t : Th} {h : Str} (hh : h ∈ heads rs t) : h ∈ rs.map (·.2.1) := by
  unfold heads at hh
  obtain ⟨a, ha, rfl⟩ := List.mem_map.mp hh
  exact List.mem_map.mpr ⟨a, (List.mem_filter.mp ha).1, rfl⟩
theorem heads_same {rs : List Ru} {t u : Th} (h : ∀ k, gets t k = gets u k) : heads rs t = heads rs u := by
  unfold heads
  congr 2
  funext a
  unfold okR hasK
  rw [h a.2.1]
  congr 3
  funext q
  rw [h q]
theorem heads_rev (rs : List Ru) (t : Th) : heads rs.reverse t = (heads rs t).reverse := by
  unfold heads
  rw [List.filter_reverse, List.map_reverse]
def Same2 (s u : Th × Rk) : Prop := (∀ k, gets s.1 k = gets u.1 k) ∧ ∀ k, gets s.2 k = gets u.2 k
theorem putB_same {c : Int} {hs hs' : List Str} (hm : ∀ h, h ∈ hs ↔ h ∈ hs') {s u : Th × Rk} (h : Same2 s u) : Same2 (hs.foldl (putB c) s) (hs'.foldl (putB c) u) := by
  refine ⟨fun k => ?_, fun k => ?_⟩
  · by_cases e : k ∈ hs
    · rw [(putB_mem (c := c) (s := s) (.inl e)).1, (putB_mem (c := c) (s := u) (.inl ((hm k).mp e))).1]
    · rw [(putB_out (c := c) (s := s) e).1, (putB_out (c := c) (s := u) (fun z => e ((hm k).mpr z))).1, h.1]
  · by_cases e : k ∈ hs
    · rw [(putB_mem (c := c) (s := s) (.inl e)).2, (putB_mem (c := c) (s := u) (.inl ((hm k).mp e))).2]
    · rw [(putB_out (c := c) (s := s) e).2, (putB_out (c := c) (s := u) (fun z => e ((hm k).mpr z))).2, h.2]
/-- the rules the other way round -/
theorem sureGo_rev (rs : List Ru) : ∀ (n : Nat) (c : Int) {s u : Th × Rk}, Same2 s u → Same2 (sureGo rs n c s) (sureGo rs.reverse n c u)
  | 0, _, _, _, h => h
  | n + 1, c, s, u, h => by
    unfold sureGo
    rw [heads_rev, ← heads_same h.1]
    have e : ((heads rs s.1).reverse == []) = (heads rs s.1 == []) := by
      cases heads rs s.1 with
      | nil => rfl
      | cons x l =>
        rw [List.reverse_cons]
        cases l.reverse <;> rfl
    rw [e]
    cases heads rs s.1 == [] with
    | true => exact h
    | false => exact sureGo_rev rs n (c + 1) (putB_same (fun x => by rw [List.mem_reverse]) h)
structure Kd2 (U V : List Str) (s : Th × Rk) : Prop where
  t : Kd U s.1
  r : Kd V s.2
theorem Kd2.put {U V : List Str} {s : Th × Rk} (h : Kd2 U V s) {x : Str} (h1 : x ∈ U) (h2 : x ∈ V) (c : Int) : Kd2 U V (putB c s x) := ⟨h.t.put h1, h.r.put h2⟩
theorem Kd2.fold {U V : List Str} {c : Int} : ∀ {hs : List Str} {s : Th × Rk}, Kd2 U V s → (∀ x ∈ hs, x ∈ U ∧ x ∈ V) → Kd2 U V (hs.foldl (putB c) s)
  | [], _, h, _ => h
  | x :: hs, s, h, hh => by
    rw [List.foldl_cons]
    exact Kd2.fold (hs := hs) (h.put (hh x (by simp)).1 (hh x (by simp)).2 c) fun y hy => hh y (List.mem_cons_of_mem _ hy)
theorem sureGo_kd {rs : List Ru} {U V : List Str} (hU : ∀ a ∈ rs, a.2.1 ∈ U ∧ a.2.1 ∈ V) : ∀ (n : Nat) (c : Int) {s : Th × Rk}, Kd2 U V s → Kd2 U V (sureGo rs n c s)
  | 0, _, _, h => h
  | n + 1, c, s, h => by
    unfold sureGo
    cases heads rs s.1 == [] with
    | true => exact h
    | false =>
      refine sureGo_kd hU n (c + 1) (h.fold fun x hx => ?_)
      obtain ⟨a, ha, rfl⟩ := List.mem_map.mp (heads_mem hx)
      exact hU a ha
end Vs

/-! Plain laws: what a ground keeps; searches. -/
namespace Vs
open PySem PySem.Spec L2 TL PySem.StrLaws
section
variable {κ A : Type} [DecidableEq κ]
theorem gets_apps_same (d : List (κ × List A)) (k : κ) (x : A) : (gets (apps d k x) k).getD [] = (gets d k).getD [] ++ [x] := by
  unfold apps
  rw [gets_puts_same]; rfl
theorem gets_apps_ne (d : List (κ × List A)) {k j : κ} (x : A) (h : j ≠ k) : gets (apps d k x) j = gets d j := by
  unfold apps
  rw [gets_puts_ne _ h]
theorem gets_heads (hd : A → κ) (k : κ) : ∀ (xs : List A) (d : List (κ × List A)), (gets (xs.foldl (fun d x => apps d (hd x) x) d) k).getD [] = (gets d k).getD [] ++ xs.filter fun x => decide (hd x = k)
  | [], d => by simp
  | x :: xs, d => by
    rw [List.foldl_cons, gets_heads hd k xs, List.filter_cons]
    by_cases e : hd x = k
    · rw [← e, gets_apps_same]
      simp
    · rw [gets_apps_ne _ _ (Ne.symm e)]
      simp [e]
theorem hasK_puts_all {A : Type} (a : A) (k : κ) : ∀ (xs : List κ) (d : List (κ × A)), hasK (xs.foldl (fun d x => puts d x a) d) k = (hasK d k || decide (k ∈ xs))
  | [], d => by simp
  | x :: xs, d => by
    rw [List.foldl_cons, hasK_puts_all a k xs]
    by_cases e : k = x
    · subst e
      unfold hasK
      rw [gets_puts_same]
      simp
    · unfold hasK
      rw [gets_puts_ne _ e]
      simp [e]
end
theorem anyEq_mem {A : Type} [DecidableEq A] [BEq A] [LawfulBEq A] (ys : List A) (x : A) : anyEq ys x = decide (x ∈ ys) := by
  unfold anyEq
  induction ys with
  | nil => rfl
  | cons y ys ih =>
    rw [List.any_cons, ih]
    by_cases e : y = x
    · subst e; simp
    · have : (y == x) = false := beq_eq_false_iff_ne.mpr e
      rw [this]
      simp [Ne.symm e]
theorem elem_mem {A : Type} [DecidableEq A] [BEq A] [LawfulBEq A] (ys : List A) (x : A) : List.elem x ys = decide (x ∈ ys) := by
  rw [Bool.eq_iff_iff]
  simp
/-- the other side: two ways to tell it -/
theorem first_minus {t : Str} (h : 1 ≤ t.length) : Txt.startswith t (Str.ofString "-") = (sgn t (0 : Int) == Str.ofString "-") := by
  rw [len_tl] at h
  rw [at0 (by rw [tl_minus]; simp), tl_minus]
  cases e : tl t with
  | nil => rw [e] at h; cases h
  | cons c l =>
    have e1 : sgn t (0 : Int) = ⟨#[c]⟩ := by
      unfold sgn
      rw [atI_get (xs := t.cps.toList) (by decide) (by show (0 : Int) < ((tl t).length : Int); rw [e, List.length_cons]; omega)]
      show _ = _
      have : (tl t)[(0 : Int).toNat]? = some c := by rw [e]; rfl
      rw [show t.cps.toList = tl t from rfl, this]
      rfl
    rw [e1]
    rw [Bool.eq_iff_iff]
    constructor
    · intro hp
      have : c = 45 := by
        have h2 : ((c :: l).take [45].length) = [45] := eq_of_beq hp
        simpa using h2
      subst this
      decide +kernel
    · intro hp
      have h2 : (⟨#[c]⟩ : Str) = Str.ofString "-" := eq_of_beq hp
      have h3 := congrArg tl h2
      rw [tl_minus] at h3
      have h4 : [c] = [45] := h3
      injection h4 with h4
      subst h4
      exact beq_self_eq_true _
theorem lcF_filter {A : Type} (p : A → Bool) (xs : List A) : lcF p (fun x => x) xs = xs.filter p := by
  unfold lcF
  induction xs with
  | nil => rfl
  | cons x xs ih =>
    rw [List.filterMap_cons, List.filter_cons, ← ih]
    cases h : p x <;> simp
/-- a search over a list -/
theorem search_any {A T : Type} {step : Unit → A → Step Unit T} {k : Unit → T} {P : Unit → A → Prop} {Q : Unit → Prop} {p : A → Bool} {y : T} (xs : List A) (h : ∀ x, x ∈ xs → step () x = cond (p x) (.fin y) (.nx ())) (hp : ∀ x, x ∈ xs → P () x) (hq : Q ()) : LoopAll P Q step xs () ∧ loop step (fun z => z) k xs () = cond (xs.any p) y (k ()) := by
  induction xs with
  | nil => exact ⟨hq, rfl⟩
  | cons x xs ih =>
    obtain ⟨a, b⟩ := ih (fun z hz => h z (List.mem_cons_of_mem _ hz)) (fun z hz => hp z (List.mem_cons_of_mem _ hz))
    have hx := h x (by simp)
    refine ⟨⟨hp x (by simp), ?_⟩, ?_⟩
    · rw [hx]
      cases p x
      · exact a
      · trivial
    · unfold loop
      rw [hx, List.any_cons]
      cases p x
      · exact b
      · rfl
end Vs

/-! Plain laws: all ways to give things to letters, the last letter fastest. -/
namespace Vs
open PySem PySem.Spec L2
abbrev Gv := List (Str × Str)
def waysP (L T : List Str) : List Gv := L.foldl (fun found l => found.flatMap fun g => T.map fun t => puts g l t) [[]]
/-- by the digits of a number, the first letter by the last digit -/
def digs (T : List Str) : List Str → Nat → Gv → Gv
  | [], _, d => d
  | l :: ls, i, d => digs T ls (i / T.length) (puts d l (T.getD (i % T.length) default))
theorem digs_out {T : List Str} {k : Str} : ∀ {ls : List Str} {i : Nat} {d : Gv}, k ∉ ls → gets (digs T ls i d) k = gets d k
  | [], _, _, _ => rfl
  | l :: ls, i, d, h => by
    rw [List.mem_cons, not_or] at h
    unfold digs
    rw [digs_out h.2, gets_puts_ne _ h.1]
theorem digs_in {T : List Str} {k : Str} : ∀ {ls : List Str} {i : Nat} {d d' : Gv}, k ∈ ls → gets (digs T ls i d) k = gets (digs T ls i d') k
  | [], _, _, _, h => by simp at h
  | l :: ls, i, d, d', h => by
    unfold digs
    by_cases e : k ∈ ls
    · exact digs_in e
    · rcases List.mem_cons.mp h with rfl | h
      · rw [digs_out e, digs_out e, gets_puts_same, gets_puts_same]
      · exact absurd h e
theorem flat_get {A B : Type} (T : List Str) (f : A → Str → B) (hT : 0 < T.length) : ∀ (xs : List A) (i : Nat), (xs.flatMap fun g => T.map fun t => f g t)[i]? = (xs[i / T.length]?).bind fun g => (T[i % T.length]?).map fun t => f g t
  | [], i => by simp
  | x :: xs, i => by
    rw [List.flatMap_cons]
    by_cases h : i < T.length
    · rw [List.getElem?_append_left (by rw [List.length_map]; exact h), List.getElem?_map, Nat.div_eq_of_lt h, Nat.mod_eq_of_lt h]
      rfl
    · rw [List.getElem?_append_right (by rw [List.length_map]; omega), List.length_map, flat_get T f hT xs]
      have h1 : i / T.length = (i - T.length) / T.length + 1 := by
        have : i = (i - T.length) + T.length := by omega
        conv => lhs; rw [this]
        rw [Nat.add_div_right _ hT]
      have h2 : i % T.length = (i - T.length) % T.length := by
        have : i = (i - T.length) + T.length := by omega
        conv => lhs; rw [this]
        rw [Nat.add_mod_right]
      rw [h1, h2, List.getElem?_cons_succ]
theorem waysP_snoc (L : List Str) (l : Str) (T : List Str) : waysP (L ++ [l]) T = (waysP L T).flatMap fun g => T.map fun t => puts g l t := by
  unfold waysP
  rw [List.foldl_append]
  rfl
theorem waysP_len {T : List Str} : ∀ L : List Str, (waysP L T).length = T.length ^ L.length := by
  intro L
  have go : ∀ (L : List Str) (d : List Gv), (L.foldl (fun found l => found.flatMap fun g => T.map fun t => puts g l t) d).length = d.length * T.length ^ L.length := by
    intro L
    induction L with
    | nil => intro d; simp
    | cons l L ih =>
      intro d
      rw [List.foldl_cons, ih]
      have e : (d.flatMap fun g => T.map fun t => puts g l t).length = d.length * T.length := by
        induction d with
        | nil => simp
        | cons x d ih2 => rw [List.flatMap_cons, List.length_append, ih2, List.length_map, List.length_cons, Nat.add_mul, Nat.one_mul, Nat.add_comm]
      rw [e, List.length_cons, Nat.pow_succ, Nat.mul_assoc, Nat.mul_comm (T.length ^ L.length)]
  rw [waysP, go]
  simp
/-- the ways in order are those by digits -/
theorem waysP_get {T : List Str} (hT : 0 < T.length) : ∀ (n : Nat) (L : List Str), L.length = n → L.Nodup → ∀ i, i < T.length ^ n → ∃ w, (waysP L T)[i]? = some w ∧ ∀ k, gets w k = gets (digs T L.reverse i []) k := by
  intro n
  induction n with
  | zero =>
    intro L hL _ i hi
    obtain rfl := List.eq_nil_of_length_eq_zero hL
    have : i = 0 := by simpa using hi
    subst this
    exact ⟨[], rfl, fun _ => rfl⟩
  | succ n ih =>
    intro L hL nd i hi
    obtain ⟨L0, l, rfl⟩ : ∃ L0 l, L = L0 ++ [l] := by
      have hne : L ≠ [] := fun e => by rw [e] at hL; cases hL
      exact ⟨L.dropLast, L.getLast hne, (List.dropLast_concat_getLast hne).symm⟩
    rw [List.length_append] at hL
    have hL0 : L0.length = n := by simpa using hL
    have nd2 := List.nodup_append.mp nd
    have hl : l ∉ L0 := fun h => nd2.2.2 l h l (by simp) rfl
    have hq : i / T.length < T.length ^ n := by
      rw [Nat.div_lt_iff_lt_mul hT]
      rw [Nat.pow_succ] at hi
      exact hi
    have hr : i % T.length < T.length := Nat.mod_lt _ hT
    obtain ⟨w, w1, w2⟩ := ih L0 hL0 nd2.1 (i / T.length) hq
    refine ⟨puts w l (T.getD (i % T.length) default), ?_, fun k => ?_⟩
    · rw [waysP_snoc, flat_get T _ hT, w1]
      show ((T[i % T.length]?).map fun t => puts w l t) = _
      rw [List.getElem?_eq_getElem hr, List.getD_eq_getElem?_getD, List.getElem?_eq_getElem hr]
      rfl
    · rw [List.reverse_append]
      show _ = gets (digs T L0.reverse (i / T.length) (puts [] l (T.getD (i % T.length) default))) k
      by_cases e : k = l
      · subst e
        rw [gets_puts_same, digs_out (by rw [List.mem_reverse]; exact hl), gets_puts_same]
      · rw [gets_puts_ne _ e, w2]
        by_cases e2 : k ∈ L0
        · exact digs_in (by rw [List.mem_reverse]; exact e2)
        · rw [digs_out (by rw [List.mem_reverse]; exact e2), digs_out (by rw [List.mem_reverse]; exact e2), gets_puts_ne _ e]
theorem waysP_map {B : Type} {T L : List Str} (hT : 0 < T.length) (nd : L.Nodup) (F : Gv → B) (hF : ∀ g g', (∀ k, gets g k = gets g' k) → F g = F g') : (waysP L T).map F = (List.range (T.length ^ L.length)).map fun i => F (digs T L.reverse i []) := by
  apply List.ext_getElem?
  intro i
  rw [List.getElem?_map, List.getElem?_map]
  by_cases h : i < T.length ^ L.length
  · obtain ⟨w, w1, w2⟩ := waysP_get hT L.length L rfl nd i h
    rw [w1, List.getElem?_range h]
    exact congrArg some (hF _ _ w2)
  · rw [List.getElem?_eq_none (by rw [waysP_len]; omega), List.getElem?_eq_none (by rw [List.length_range]; omega)]
    rfl
end Vs

set_option maxHeartbeats 4000000
namespace Lw
open PySem PySem.Spec L2 Vs
def top (i : Nat) : Stmt := PySem.Challenge.pw_mostwise_k21_written_out.main.body.getD i (.Pass ⟨0, 0, 0, 0⟩)
def sub (s : Stmt) (j : Nat) : Stmt := match s with
  | .ClassDef _ _ _ body _ _ _ _ _ _ _ => body.getD j (.Pass ⟨0, 0, 0, 0⟩)
  | _ => .Pass ⟨0, 0, 0, 0⟩
abbrev e0_list (z : (List Str)) : Dt := Dt.lst (List.map Dt.str z)
abbrev e1_tup (z : (Str × Str × (List Str))) : Dt := Dt.tup [(Dt.str z.1), (Dt.str z.2.1), (e0_list z.2.2)]
abbrev e2_scr (z : (List Int)) : Dt := Dt.scr (List.map Dt.int z)
abbrev e3_list (z : (List Int)) : Dt := Dt.lst (List.map Dt.int z)
abbrev e4_dict (z : (List (Str × Str))) : Dt := Dt.dic (encK Sum.inr Dt.str z)
abbrev e5_list (z : (List (Str × Str × (List Str)))) : Dt := Dt.lst (List.map e1_tup z)
abbrev e6_vtup (z : (List Str)) : Dt := Dt.tup (List.map Dt.str z)
def cn_Rule : Nat → Str := fun k => match k with
  | 0 => "Fact"
  | 1 => "Sure"
  | 2 => "Most"
  | _ => "Block"
abbrev enc_Rule (z : (Nat × Str × Str × (List Str))) : Dt := Dt.ins (cn_Rule z.1) [("label", (Dt.str z.2.1)), ("head", (Dt.str z.2.2.1)), ("body", (e6_vtup z.2.2.2))]
abbrev e7_tup (z : (Str × Str × (List Str))) : Dt := Dt.tup [(Dt.str z.1), (Dt.str z.2.1), (e6_vtup z.2.2)]
abbrev e8_opt (z : (Option (List Str))) : Dt := encO e6_vtup z
abbrev e9_tup (z : (Str × Str × Str)) : Dt := Dt.tup [(Dt.str z.1), (Dt.str z.2.1), (Dt.str z.2.2)]
abbrev e10_list (z : (List (List (Str × Str)))) : Dt := Dt.lst (List.map e4_dict z)
abbrev e11_list (z : (List (Nat × Str × Str × (List Str)))) : Dt := Dt.lst (List.map enc_Rule z)
abbrev e12_list (z : (List (List Str))) : Dt := Dt.lst (List.map e0_list z)
abbrev e13_list (z : (List Bool)) : Dt := Dt.lst (List.map Dt.bl z)
theorem lk_Rule_label (z : (Nat × Str × Str × (List Str))) : List.lookup ("label" : Str) ([("label", (Dt.str z.2.1)), ("head", (Dt.str z.2.2.1)), ("body", (e6_vtup z.2.2.2))] : List (Str × Dt)) = some (Dt.str z.2.1) := by rfl
theorem lk_Rule_head (z : (Nat × Str × Str × (List Str))) : List.lookup ("head" : Str) ([("label", (Dt.str z.2.1)), ("head", (Dt.str z.2.2.1)), ("body", (e6_vtup z.2.2.2))] : List (Str × Dt)) = some (Dt.str z.2.2.1) := by rfl
theorem lk_Rule_body (z : (Nat × Str × Str × (List Str))) : List.lookup ("body" : Str) ([("label", (Dt.str z.2.1)), ("head", (Dt.str z.2.2.1)), ("body", (e6_vtup z.2.2.2))] : List (Str × Dt)) = some (e6_vtup z.2.2.2) := by rfl
theorem nol_Rule (z : (Nat × Str × Str × (List Str))) : noL (enc_Rule z) = true := by
  show (noL (Dt.str z.2.1) && (noL (Dt.str z.2.2.1) && (noL (e6_vtup z.2.2.2) && true))) = true
  rw [show noL (Dt.str z.2.1) = true from nol_str _, show noL (Dt.str z.2.2.1) = true from nol_str _, show noL (e6_vtup z.2.2.2) = true from (nol_vtup nol_str) _]; rfl
def ib_Rule_Block : Nat → Bool := fun k => match k with
  | 0 => false
  | 1 => false
  | 2 => false
  | _ => true
def ib_Rule_Fact : Nat → Bool := fun k => match k with
  | 0 => true
  | 1 => false
  | 2 => false
  | _ => false
def ib_Rule_Most : Nat → Bool := fun k => match k with
  | 0 => false
  | 1 => false
  | 2 => true
  | _ => false
def ib_Rule_Sure : Nat → Bool := fun k => match k with
  | 0 => false
  | 1 => true
  | 2 => false
  | _ => false
structure Txt (K : PySem.W.Frag) (mg : Str → Option Value) : Prop where
  n_dict : mg "dict" = none
  n_isinstance : mg "isinstance" = none
  n_len : mg "len" = none
  n_list : mg "list" = none
  n_range : mg "range" = none
  n_reversed : mg "reversed" = none
  n_str : mg "str" = none
  n_tuple : mg "tuple" = none
  n_zip : mg "zip" = none
  g_GREAT : ∃ t, mg "GREAT" = some (.str (Str.ofString "ABCDEFGHIJKLMNOPQRSTUVWXYZ") t)
  g_LONGEST : ∃ t, mg "LONGEST" = some (.int 8 t)
  g_SMALL : ∃ t, mg "SMALL" = some (.str (Str.ofString "abcdefghijklmnopqrstuvwxyz") t)
  cl_Rule : ∀ k, ClF K (cn_Rule k)
  gc_Block : mg "Block" = some (.ref (He.ga K "Block"))
  gc_Fact : mg "Fact" = some (.ref (He.ga K "Fact"))
  gc_Most : mg "Most" = some (.ref (He.ga K "Most"))
  gc_Rule : mg "Rule" = some (.ref (He.ga K "Rule"))
  gc_Sure : mg "Sure" = some (.ref (He.ga K "Sure"))
  is_Rule_Block : ∀ k, IsF K (cn_Rule k) "Block" (ib_Rule_Block k)
  is_Rule_Fact : ∀ k, IsF K (cn_Rule k) "Fact" (ib_Rule_Fact k)
  is_Rule_Most : ∀ k, IsF K (cn_Rule k) "Most" (ib_Rule_Most k)
  is_Rule_Sure : ∀ k, IsF K (cn_Rule k) "Sure" (ib_Rule_Sure k)
  mk_Block : Mk K (He.ga K "Block") (He.ma K (He.ga K "Block") "__init__")
  mk_Fact : Mk K (He.ga K "Fact") (He.ma K (He.ga K "Fact") "__init__")
  mk_Most : Mk K (He.ga K "Most") (He.ma K (He.ga K "Most") "__init__")
  mk_Sure : Mk K (He.ga K "Sure") (He.ma K (He.ga K "Sure") "__init__")
  na_Rule_body : ∀ k, NoAttr K (He.ga K (cn_Rule k)) "body"
  na_Rule_head : ∀ k, NoAttr K (He.ga K (cn_Rule k)) "head"
  na_Rule_label : ∀ k, NoAttr K (He.ga K (cn_Rule k)) "label"
  su_Rule : SupF K "Rule" "__init__"
/-! law_cell_at -/
def m_law_cell_at (v_script : (List Int)) (v_k : Int) : Int := (cond (decide (v_k < ((v_script).length : Int))) (itm v_script v_k) (0 : Int))
def k_law_cell_at (v_script : (List Int)) (v_k : Int) : Prop := ((decide (v_k < ((v_script).length : Int))) = true → (inI v_script v_k = true))
abbrev s_law_cell_at : Stmt := top 27
theorem sc_law_cell_at : FnScope ["_law_script", "_law_k"] ["_law_script", "_law_k"] (defScope s_law_cell_at) := ⟨rfl, rfl, rfl, by decide +kernel, rfl, by decide +kernel, by decide +kernel⟩
def r_law_cell_at : List Dt → Sum Cell Xc → Prop := fun ds a => ∃ (v_script : (List Int)) (v_k : Int), k_law_cell_at v_script v_k ∧ ds = [(e2_scr v_script), (Dt.int v_k)] ∧ a = .inl (.fz (Dt.int (m_law_cell_at v_script v_k)))
section
variable {P : Program} {w : World} {K : PySem.W.Frag} {mg : Str → Option Value} {base : Heap}
theorem run_law_cell_at (T : Txt K mg)  {f : Addr} {cdv : Value} {A : Around} {outer : List PySem.Env} {s : Shared} {H : Hp} {E : XK} (hr : Room 0 (A.deeper (PyProof.Rows.envOfC "_law_cell_at" (defScope s_law_cell_at) s.heap.objs.size f cdv))) (v_script : (List Int)) (v_k : Int) (hk : k_law_cell_at v_script v_k) :
    Run (cxOf (L2.CX P w) P w K mg base ["_law_script", "_law_k"] "_law_cell_at" (defScope s_law_cell_at) f cdv A outer s H E) K (wE E) sv0 (defBody s_law_cell_at) (start0 ["_law_script", "_law_k"] [(e2_scr v_script), (Dt.int v_k)]) (.rt (.fz (Dt.int (m_law_cell_at v_script v_k))) none) := by
  have h2 := hk
  refine run_gd (fun x : Int => .rt (.fz (Dt.int x)) none) (itm v_script v_k) (0 : Int) (fun _ h => nomatch h) (eb_cmp says_lt (xv 1 rfl) (x_len Dt.int (fun _ => rfl) (EX.esS (xv 0 rfl)) (fun _ => rfl) (fun _ => T.n_len))) (fun hb => ?_) (fun hb => ?_)
  · have hk := h2 hb
    have h1 := hk
    exact run_ret (x_ix Dt.int (fun _ => rfl) (EX.esS (xv 0 rfl)) (xv 1 rfl) h1)
  · exact run_ret ex_int
theorem ok_law_cell_at (T : Txt K mg)  {f : Addr} {fd : FuncData} (F : FunD K "_law_cell_at" "_law_cell_at" (defArgs s_law_cell_at) (defBody s_law_cell_at) (defScope s_law_cell_at) [] [] f fd) : FnOk P w K mg base (L2.CX P w) 1 f fd ["_law_script", "_law_k"] (spR K 2 r_law_cell_at) :=
  fnOk_mk F sc_law_cell_at (fun cdv A outer s H E ds a hr hR hn => by
    obtain ⟨v_script, v_k, hk, rfl, rfl⟩ := hR
    exact ⟨_, .rt _, run_law_cell_at T  hr v_script v_k hk⟩)
theorem mk_law_cell_at (T : Txt K mg)  {f : Addr} {fd : FuncData} (F : FunD K "_law_cell_at" "_law_cell_at" (defArgs s_law_cell_at) (defBody s_law_cell_at) (defScope s_law_cell_at) [] [] f fd) {x : Str} (gf : mg x = some (.ref f)) : Callee P w K mg base x 1 2 r_law_cell_at :=
  ⟨f, fd, ["_law_script", "_law_k"], ok_law_cell_at T  F, gf, F.kp, FunD.bindsN F fun _ _ _ _ _ _ us hl => match us, hl with | [_, _], _ => rfl⟩
end
/-! law_mix -/
def m_law_mix_1  (v_number_2 : Int) : Int := ((v_number_2 * v_number_2) % (2147483587 : Int))
def k_law_mix_1  (v_number_2 : Int) : Prop := (mulOk v_number_2 v_number_2)
def m_law_mix_2 (v_k : Int) (v_number_1 : Int) : Int := (m_law_mix_1 (((v_number_1 * (48271 : Int)) + v_k) % (2147483647 : Int)))
def k_law_mix_2 (v_k : Int) (v_number_1 : Int) : Prop := (k_law_mix_1 (((v_number_1 * (48271 : Int)) + v_k) % (2147483647 : Int)))
def m_law_mix_3 (v_k : Int) (v_number : Int) : Int := (m_law_mix_2 v_k ((v_number * v_number) % (2147483629 : Int)))
def k_law_mix_3 (v_k : Int) (v_number : Int) : Prop := ((mulOk v_number v_number) ∧ (k_law_mix_2 v_k ((v_number * v_number) % (2147483629 : Int))))
def m_law_mix (v_cell : Int) (v_k : Int) : Int := (m_law_mix_3 v_k ((((v_cell % (2147483647 : Int)) + ((7919 : Int) * v_k)) + (12345 : Int)) % (2147483647 : Int)))
def k_law_mix (v_cell : Int) (v_k : Int) : Prop := (k_law_mix_3 v_k ((((v_cell % (2147483647 : Int)) + ((7919 : Int) * v_k)) + (12345 : Int)) % (2147483647 : Int)))
abbrev s_law_mix : Stmt := top 28
theorem sc_law_mix : FnScope ["_law_cell", "_law_k", "_law_number"] ["_law_cell", "_law_k"] (defScope s_law_mix) := ⟨rfl, rfl, rfl, by decide +kernel, rfl, by decide +kernel, by decide +kernel⟩
def r_law_mix : List Dt → Sum Cell Xc → Prop := fun ds a => ∃ (v_cell : Int) (v_k : Int), k_law_mix v_cell v_k ∧ ds = [(Dt.int v_cell), (Dt.int v_k)] ∧ a = .inl (.fz (Dt.int (m_law_mix v_cell v_k)))
section
variable {P : Program} {w : World} {K : PySem.W.Frag} {mg : Str → Option Value} {base : Heap}
theorem run_law_mix (T : Txt K mg)  {f : Addr} {cdv : Value} {A : Around} {outer : List PySem.Env} {s : Shared} {H : Hp} {E : XK} (hr : Room 0 (A.deeper (PyProof.Rows.envOfC "_law_mix" (defScope s_law_mix) s.heap.objs.size f cdv))) (v_cell : Int) (v_k : Int) (hk : k_law_mix v_cell v_k) :
    Run (cxOf (L2.CX P w) P w K mg base ["_law_cell", "_law_k", "_law_number"] "_law_mix" (defScope s_law_mix) f cdv A outer s H E) K (wE E) sv0 (defBody s_law_mix) (start0 ["_law_cell", "_law_k", "_law_number"] [(Dt.int v_cell), (Dt.int v_k)]) (.rt (.fz (Dt.int (m_law_mix v_cell v_k))) none) := by
  have h5 := hk
  refine run_asgE (i := 2) ((((v_cell % (2147483647 : Int)) + ((7919 : Int) * v_k)) + (12345 : Int)) % (2147483647 : Int)) (fun v_number => .fz (Dt.int v_number)) (fun _ => _) (fun v_number => [Zf (Dt.int v_cell), Zf (Dt.int v_k), Zf (Dt.int v_number)]) (fun v_number => .rt (.fz (Dt.int (m_law_mix_3 v_k v_number))) none) (k_law_mix_3 v_k) (EX.ev (ex_mod (ex_add (ex_add (ex_mod (xv 0 rfl) ex_int (by decide)) (ex_mul ex_int (xv 1 rfl) (.inl ⟨by decide, by decide⟩))) ex_int) ex_int (by decide))) h5 sc_law_mix.nd (fun _ => rfl) (fun v_number hk => ?_)
  obtain ⟨h3, h4⟩ := hk
  refine run_asgE (i := 2) ((v_number * v_number) % (2147483629 : Int)) (fun v_number_1 => .fz (Dt.int v_number_1)) (fun _ => _) (fun v_number_1 => [Zf (Dt.int v_cell), Zf (Dt.int v_k), Zf (Dt.int v_number_1)]) (fun v_number_1 => .rt (.fz (Dt.int (m_law_mix_2 v_k v_number_1))) none) (k_law_mix_2 v_k) (EX.ev (ex_mod (ex_mul (xv 2 rfl) (xv 2 rfl) h3) ex_int (by decide))) h4 sc_law_mix.nd (fun _ => rfl) (fun v_number_1 hk => ?_)
  have h2 := hk
  refine run_asgE (i := 2) (((v_number_1 * (48271 : Int)) + v_k) % (2147483647 : Int)) (fun v_number_2 => .fz (Dt.int v_number_2)) (fun _ => _) (fun v_number_2 => [Zf (Dt.int v_cell), Zf (Dt.int v_k), Zf (Dt.int v_number_2)]) (fun v_number_2 => .rt (.fz (Dt.int (m_law_mix_1 v_number_2))) none) (k_law_mix_1) (EX.ev (ex_mod (ex_add (ex_mul (xv 2 rfl) ex_int (.inr ⟨by decide, by decide⟩)) (xv 1 rfl)) ex_int (by decide))) h2 sc_law_mix.nd (fun _ => rfl) (fun v_number_2 hk => ?_)
  have h1 := hk
  exact run_ret (ex_mod (ex_mul (xv 2 rfl) (xv 2 rfl) h1) ex_int (by decide))
theorem ok_law_mix (T : Txt K mg)  {f : Addr} {fd : FuncData} (F : FunD K "_law_mix" "_law_mix" (defArgs s_law_mix) (defBody s_law_mix) (defScope s_law_mix) [] [] f fd) : FnOk P w K mg base (L2.CX P w) 1 f fd ["_law_cell", "_law_k"] (spR K 2 r_law_mix) :=
  fnOk_mk F sc_law_mix (fun cdv A outer s H E ds a hr hR hn => by
    obtain ⟨v_cell, v_k, hk, rfl, rfl⟩ := hR
    exact ⟨_, .rt _, run_law_mix T  hr v_cell v_k hk⟩)
theorem mk_law_mix (T : Txt K mg)  {f : Addr} {fd : FuncData} (F : FunD K "_law_mix" "_law_mix" (defArgs s_law_mix) (defBody s_law_mix) (defScope s_law_mix) [] [] f fd) {x : Str} (gf : mg x = some (.ref f)) : Callee P w K mg base x 1 2 r_law_mix :=
  ⟨f, fd, ["_law_cell", "_law_k"], ok_law_mix T  F, gf, F.kp, FunD.bindsN F fun _ _ _ _ _ _ us hl => match us, hl with | [_, _], _ => rfl⟩
end
/-! law_words -/
def m_law_words_1  (v_st_1 : ((List Str))) : (Step ((List Str)) (List Str)) := (.nx v_st_1)
def m_law_words_2 (v_cell : Int) (v_base : (List Str)) (v_size : Int) (v_at : Int) (v_st : ((List Str))) (v_it : Nat) (v_other : (List Str)) : (Step ((List Str)) (List Str)) := (m_law_words_1 (cond ((v_cell % (3 : Int)) == (1 : Int)) (v_st ++ [(Txt.join (Str.ofString "") (cut v_base none (some ((1 : Int) + (v_it : Int)))))]) (v_st ++ [(Txt.join (Str.ofString "") (cut (List.set v_other (Int.toNat v_at) (sgn (Str.ofString "abcdefghijklmnopqrstuvwxyz") (((m_law_mix v_cell ((3 : Int))) + (v_it : Int)) % (26 : Int)))) none (some v_size)))])))
def k_law_words_2 (v_cell : Int) (v_base : (List Str)) (v_size : Int) (v_at : Int) (v_st : ((List Str))) (v_it : Nat) (v_other : (List Str)) : Prop := ((k_law_mix v_cell ((3 : Int))) ∧ ((atI ((Str.ofString "abcdefghijklmnopqrstuvwxyz")).cps.toList (((m_law_mix v_cell ((3 : Int))) + (v_it : Int)) % (26 : Int))).isSome = true) ∧ (0 ≤ v_at ∧ v_at < ((v_other).length : Int)) ∧ ((((v_cell % (3 : Int)) == (1 : Int)) = true → ((joinOk (Str.ofString "") (cut v_base none (some ((1 : Int) + (v_it : Int))))) ∧ ((v_st).length + 1 ≤ big))) ∧ (((v_cell % (3 : Int)) == (1 : Int)) = false → ((joinOk (Str.ofString "") (cut (List.set v_other (Int.toNat v_at) (sgn (Str.ofString "abcdefghijklmnopqrstuvwxyz") (((m_law_mix v_cell ((3 : Int))) + (v_it : Int)) % (26 : Int)))) none (some v_size))) ∧ ((v_st).length + 1 ≤ big)))))
def m_law_words_3 (v_cell : Int) (v_base : (List Str)) (v_size : Int) (v_at : Int) (v_st : ((List Str))) (v_it : Nat) : Step ((List Str)) (List Str) := (m_law_words_2 v_cell v_base v_size v_at v_st v_it v_base)
def k_law_words_3 (v_cell : Int) (v_base : (List Str)) (v_size : Int) (v_at : Int) (v_st : ((List Str))) (v_it : Nat) : Prop := (k_law_words_2 v_cell v_base v_size v_at v_st v_it v_base)
def m_law_words_4  (v_st : ((List Str))) : (List Str) := v_st
def m_law_words_5 (v_cell : Int) (v_many : Int) (v_base : (List Str)) (v_size : Int) (v_at : Int) (v_found : (List Str)) : (List Str) := (loop (m_law_words_3 v_cell v_base v_size v_at) (fun y => y) (m_law_words_4) (List.range (Int.toNat v_many)) v_found)
def k_law_words_5 (v_cell : Int) (v_many : Int) (v_base : (List Str)) (v_size : Int) (v_at : Int) (v_found : (List Str)) : Prop := ((rngOk v_many) ∧ (LoopAll (k_law_words_3 v_cell v_base v_size v_at) (fun _ => True) (m_law_words_3 v_cell v_base v_size v_at) (List.range (Int.toNat v_many)) v_found))
def m_law_words_6 (v_cell : Int) (v_many : Int) (v_base : (List Str)) (v_size : Int) (v_at : Int) : (List Str) := (m_law_words_5 v_cell v_many v_base v_size v_at [])
def k_law_words_6 (v_cell : Int) (v_many : Int) (v_base : (List Str)) (v_size : Int) (v_at : Int) : Prop := (k_law_words_5 v_cell v_many v_base v_size v_at [])
def m_law_words_7 (v_cell : Int) (v_many : Int) (v_base : (List Str)) (v_size : Int) : (List Str) := (m_law_words_6 v_cell v_many v_base v_size ((m_law_mix v_cell ((2 : Int))) % v_size))
def k_law_words_7 (v_cell : Int) (v_many : Int) (v_base : (List Str)) (v_size : Int) : Prop := ((k_law_mix v_cell ((2 : Int))) ∧ ((0 : Int) < v_size) ∧ (k_law_words_6 v_cell v_many v_base v_size ((m_law_mix v_cell ((2 : Int))) % v_size)))
def m_law_words_8 (v_cell : Int) (v_many : Int) (v_base : (List Str)) : (List Str) := (m_law_words_7 v_cell v_many v_base ((1 : Int) + ((m_law_mix v_cell ((1 : Int))) % (8 : Int))))
def k_law_words_8 (v_cell : Int) (v_many : Int) (v_base : (List Str)) : Prop := ((k_law_mix v_cell ((1 : Int))) ∧ (k_law_words_7 v_cell v_many v_base ((1 : Int) + ((m_law_mix v_cell ((1 : Int))) % (8 : Int)))))
def m_law_words (v_cell : Int) (v_many : Int) : (List Str) := (m_law_words_8 v_cell v_many (List.map (fun v_item : Nat => (sgn (Str.ofString "abcdefghijklmnopqrstuvwxyz") ((m_law_mix v_cell (((10 : Int) + (v_item : Int)))) % (26 : Int)))) (List.range (Int.toNat (8 : Int)))))
def k_law_words (v_cell : Int) (v_many : Int) : Prop := ((rngOk (8 : Int)) ∧ (((List.range (Int.toNat (8 : Int)))).length ≤ big) ∧ (∀ v_item ∈ (List.range (Int.toNat (8 : Int))), ((k_law_mix v_cell (((10 : Int) + (v_item : Int)))) ∧ ((atI ((Str.ofString "abcdefghijklmnopqrstuvwxyz")).cps.toList ((m_law_mix v_cell (((10 : Int) + (v_item : Int)))) % (26 : Int))).isSome = true))) ∧ (k_law_words_8 v_cell v_many (List.map (fun v_item : Nat => (sgn (Str.ofString "abcdefghijklmnopqrstuvwxyz") ((m_law_mix v_cell (((10 : Int) + (v_item : Int)))) % (26 : Int)))) (List.range (Int.toNat (8 : Int))))))
abbrev s_law_words : Stmt := top 29
theorem sc_law_words : FnScope ["_law_cell", "_law_many", "_law_signs", "_law_base", "_law_size", "_law_at", "_law_found", "_law_k", "_law_other"] ["_law_cell", "_law_many"] (defScope s_law_words) := ⟨rfl, rfl, rfl, by decide +kernel, rfl, by decide +kernel, by decide +kernel⟩
def r_law_words : List Dt → Sum Cell Xc → Prop := fun ds a => ∃ (v_cell : Int) (v_many : Int), k_law_words v_cell v_many ∧ ds = [(Dt.int v_cell), (Dt.int v_many)] ∧ a = .inl (.ol (List.map Dt.str (m_law_words v_cell v_many)))
section
variable {P : Program} {w : World} {K : PySem.W.Frag} {mg : Str → Option Value} {base : Heap}
theorem run_law_words (T : Txt K mg) (c_law_mix : Callee P w K mg base "_law_mix" 1 2 r_law_mix) {f : Addr} {cdv : Value} {A : Around} {outer : List PySem.Env} {s : Shared} {H : Hp} {E : XK} (hr : Room 1 (A.deeper (PyProof.Rows.envOfC "_law_words" (defScope s_law_words) s.heap.objs.size f cdv))) (v_cell : Int) (v_many : Int) (hk : k_law_words v_cell v_many) :
    Run (cxOf (L2.CX P w) P w K mg base ["_law_cell", "_law_many", "_law_signs", "_law_base", "_law_size", "_law_at", "_law_found", "_law_k", "_law_other"] "_law_words" (defScope s_law_words) f cdv A outer s H E) K (wE E) sv0 (defBody s_law_words) (start0 ["_law_cell", "_law_many", "_law_signs", "_law_base", "_law_size", "_law_at", "_law_found", "_law_k", "_law_other"] [(Dt.int v_cell), (Dt.int v_many)]) (.rt (.ol (List.map Dt.str (m_law_words v_cell v_many))) none) := by
  have h28 := hk
  refine run_asgQ (i := 2) (Gk := [Zf (Dt.int v_cell), Zf (Dt.int v_many), Zf (Dt.str (Str.ofString "abcdefghijklmnopqrstuvwxyz")), none, none, none, none, none, none]) (EX.ev (ex_str (h := by decide +kernel))) sc_law_words.nd rfl ?_
  have hk := h28
  obtain ⟨h24, h25, h26, h27⟩ := hk
  refine run_asgLc (i := 3) (v := (List.map (fun v_item : Nat => (sgn (Str.ofString "abcdefghijklmnopqrstuvwxyz") ((m_law_mix v_cell (((10 : Int) + (v_item : Int)))) % (26 : Int)))) (List.range (Int.toNat (8 : Int))))) (fun z : (List Str) => List.map Dt.str z) (fun v_base => [Zf (Dt.int v_cell), Zf (Dt.int v_many), Zf (Dt.str (Str.ofString "abcdefghijklmnopqrstuvwxyz")), some (.ol (List.map Dt.str v_base)), none, none, none, none, none]) (fun v_base => .rt (.ol (List.map Dt.str (m_law_words_8 v_cell v_many v_base))) none) (k_law_words_8 v_cell v_many) (own := [("_law_k", 7)]) (fun i : Nat => Dt.int (i : Int)) (fun v_item : Nat => [Zf (Dt.int v_cell), Zf (Dt.int v_many), Zf (Dt.str (Str.ofString "abcdefghijklmnopqrstuvwxyz")), none, none, none, none, Zf (Dt.int (v_item : Int)), none]) (fun v_item : Nat => true) (fun v_item : Nat => (Dt.str (sgn (Str.ofString "abcdefghijklmnopqrstuvwxyz") ((m_law_mix v_cell (((10 : Int) + (v_item : Int)))) % (26 : Int))))) rfl sc_law_words.nd (src_range1 rfl T.n_range ex_int h24.1 h24.2) h25 (blkOk_by (by decide +kernel : blkC ["_law_cell", "_law_many", "_law_signs", "_law_base", "_law_size", "_law_at", "_law_found", "_law_k", "_law_other"] (defScope s_law_words) _ [("_law_k", 7)] = true)) (by decide) (fun _ => (pg_name (i := 7) sc_law_words.nd rfl (by first | exact Or.inl rfl | exact Or.inr rfl))) (fun _ => (bd_name (Nat.blt_eq.mp rfl))) ⟨tYes, fun _ => pts_nil, fun _ _ F H σ fps Q E q => q F H (Up.refl E.sub)⟩ (fun v_item hm hp => (x_ixS (xv 2 rfl) (ex_mod (ex_call c_law_mix (fun _ => ⟨rfl, rfl, rfl, rfl, rfl⟩) (fun _ => hr.mono (by decide)) (fun _ => rfl) (ea_cons (xv 0 rfl) (ea_cons (ex_add ex_int (xv 7 rfl)) ea_nil)) rfl ⟨v_cell, ((10 : Int) + (v_item : Int)), (h26 v_item hm).1, rfl, rfl⟩) ex_int (by decide)) (h26 v_item hm).2)) (lcM_enc Dt.str (fun v_item : Nat => (sgn (Str.ofString "abcdefghijklmnopqrstuvwxyz") ((m_law_mix v_cell (((10 : Int) + (v_item : Int)))) % (26 : Int)))) (List.range (Int.toNat (8 : Int)))).symm h27 (fun v_base hk => ?_) rfl rfl (Nat.blt_eq.mp rfl) rfl (sw_true rfl rfl rfl (by decide +kernel)) (fun _ => rfl)
  obtain ⟨h22, h23⟩ := hk
  refine run_asgE (i := 4) ((1 : Int) + ((m_law_mix v_cell ((1 : Int))) % (8 : Int))) (fun v_size => .fz (Dt.int v_size)) (fun _ => _) (fun v_size => [Zf (Dt.int v_cell), Zf (Dt.int v_many), Zf (Dt.str (Str.ofString "abcdefghijklmnopqrstuvwxyz")), some (.ol (List.map Dt.str v_base)), Zf (Dt.int v_size), none, none, none, none]) (fun v_size => .rt (.ol (List.map Dt.str (m_law_words_7 v_cell v_many v_base v_size))) none) (k_law_words_7 v_cell v_many v_base) (EX.ev (ex_add ex_int (ex_mod (ex_call c_law_mix (fun _ => ⟨rfl, rfl, rfl, rfl, rfl⟩) (fun _ => hr.mono (by decide)) (fun _ => rfl) (ea_cons (xv 0 rfl) (ea_cons ex_int ea_nil)) rfl ⟨v_cell, (1 : Int), h22, rfl, rfl⟩) ex_int (by decide)))) h23 sc_law_words.nd (fun _ => rfl) (fun v_size hk => ?_)
  obtain ⟨h19, h20, h21⟩ := hk
  refine run_asgE (i := 5) ((m_law_mix v_cell ((2 : Int))) % v_size) (fun v_at => .fz (Dt.int v_at)) (fun _ => _) (fun v_at => [Zf (Dt.int v_cell), Zf (Dt.int v_many), Zf (Dt.str (Str.ofString "abcdefghijklmnopqrstuvwxyz")), some (.ol (List.map Dt.str v_base)), Zf (Dt.int v_size), Zf (Dt.int v_at), none, none, none]) (fun v_at => .rt (.ol (List.map Dt.str (m_law_words_6 v_cell v_many v_base v_size v_at))) none) (k_law_words_6 v_cell v_many v_base v_size) (EX.ev (ex_mod (ex_call c_law_mix (fun _ => ⟨rfl, rfl, rfl, rfl, rfl⟩) (fun _ => hr.mono (by decide)) (fun _ => rfl) (ea_cons (xv 0 rfl) (ea_cons ex_int ea_nil)) rfl ⟨v_cell, (2 : Int), h19, rfl, rfl⟩) (xv 4 rfl) h20)) h21 sc_law_words.nd (fun _ => rfl) (fun v_at hk => ?_)
  have h18 := hk
  refine run_asgE (i := 6) [] (fun v_found => .ol (List.map Dt.str v_found)) (fun _ => _) (fun v_found => [Zf (Dt.int v_cell), Zf (Dt.int v_many), Zf (Dt.str (Str.ofString "abcdefghijklmnopqrstuvwxyz")), some (.ol (List.map Dt.str v_base)), Zf (Dt.int v_size), Zf (Dt.int v_at), some (.ol (List.map Dt.str v_found)), none, none]) (fun v_found => .rt (.ol (List.map Dt.str (m_law_words_5 v_cell v_many v_base v_size v_at v_found))) none) (k_law_words_5 v_cell v_many v_base v_size v_at) (EN.ev (en_lst ea_nil (Nat.le_of_ble_eq_true rfl))) h18 sc_law_words.nd (fun _ => rfl) (fun v_found hk => ?_)
  obtain ⟨h16, h17⟩ := hk
  refine run_forQ (js := [7]) (P := (k_law_words_3 v_cell v_base v_size v_at)) (Q := (fun _ => True)) (s0 := v_found) (fun i : Nat => Dt.int (i : Int)) (fun v_st : ((List Str)) => [Zf (Dt.int v_cell), Zf (Dt.int v_many), Zf (Dt.str (Str.ofString "abcdefghijklmnopqrstuvwxyz")), some (.ol (List.map Dt.str v_base)), Zf (Dt.int v_size), Zf (Dt.int v_at), some (.ol (List.map Dt.str v_st)), none, none]) (fun (v_st : ((List Str))) (v_it : Nat) => [Zf (Dt.int v_cell), Zf (Dt.int v_many), Zf (Dt.str (Str.ofString "abcdefghijklmnopqrstuvwxyz")), some (.ol (List.map Dt.str v_base)), Zf (Dt.int v_size), Zf (Dt.int v_at), some (.ol (List.map Dt.str v_st)), Zf (Dt.int (v_it : Int)), none]) (fun x : (List Str) => .rt (.ol (List.map Dt.str x)) none) (m_law_words_3 v_cell v_base v_size v_at) (fun y => y) (m_law_words_4) (passes_of rfl) rfl (pg_name (i := 7) sc_law_words.nd rfl (by first | exact Or.inl rfl | exact Or.inr rfl)) rfl (fun _ => trivial) (src_range1 rfl T.n_range (xv 1 rfl) h16.1 h16.2) (.keep (.keep (.keep (.keep (.keep (.keep (.keep (.keep (.keep .nil))))))))) (fun _ _ => (bd_name (Nat.blt_eq.mp rfl))) h17 (fun v_st v_it hm hk => ?_) (fun v_st _ => ?_)
  · have h15 := hk
    refine run_asgE (i := 8) v_base (fun v_other => .ol (List.map Dt.str v_other)) (fun _ => _) (fun v_other => [Zf (Dt.int v_cell), Zf (Dt.int v_many), Zf (Dt.str (Str.ofString "abcdefghijklmnopqrstuvwxyz")), some (.ol (List.map Dt.str v_base)), Zf (Dt.int v_size), Zf (Dt.int v_at), some (.ol (List.map Dt.str v_st)), Zf (Dt.int (v_it : Int)), some (.ol (List.map Dt.str v_other))]) (fun v_other => (Step.out (fun v_st : ((List Str)) => [Zf (Dt.int v_cell), Zf (Dt.int v_many), Zf (Dt.str (Str.ofString "abcdefghijklmnopqrstuvwxyz")), some (.ol (List.map Dt.str v_base)), Zf (Dt.int v_size), Zf (Dt.int v_at), some (.ol (List.map Dt.str v_st)), none, none]) (fun x : (List Str) => .rt (.ol (List.map Dt.str x)) none) (m_law_words_2 v_cell v_base v_size v_at v_st v_it v_other))) (k_law_words_2 v_cell v_base v_size v_at v_st v_it) (EN.ev (en_list (fun _ => rfl) (EP.es (pp 3 rfl) rfl) (fun _ => rfl) (fun _ => T.n_list))) h15 sc_law_words.nd (fun _ => rfl) (fun v_other hk => ?_)
    obtain ⟨h11, h12, h13, h14⟩ := hk
    refine run_setL (i := 8) (π := []) (xs := v_other) (y := (sgn (Str.ofString "abcdefghijklmnopqrstuvwxyz") (((m_law_mix v_cell ((3 : Int))) + (v_it : Int)) % (26 : Int)))) (G' := [Zf (Dt.int v_cell), Zf (Dt.int v_many), Zf (Dt.str (Str.ofString "abcdefghijklmnopqrstuvwxyz")), some (.ol (List.map Dt.str v_base)), Zf (Dt.int v_size), Zf (Dt.int v_at), some (.ol (List.map Dt.str v_st)), Zf (Dt.int (v_it : Int)), some (.ol (List.map Dt.str (List.set v_other (Int.toNat v_at) (sgn (Str.ofString "abcdefghijklmnopqrstuvwxyz") (((m_law_mix v_cell ((3 : Int))) + (v_it : Int)) % (26 : Int))))))]) Dt.str (pp 8 rfl) rfl (x_ixS (xv 2 rfl) (ex_mod (ex_add (ex_call c_law_mix (fun _ => ⟨rfl, rfl, rfl, rfl, rfl⟩) (fun _ => hr.mono (by decide)) (fun _ => rfl) (ea_cons (xv 0 rfl) (ea_cons ex_int ea_nil)) rfl ⟨v_cell, (3 : Int), h11, rfl, rfl⟩) (xv 7 rfl)) ex_int (by decide)) h12) (xv 5 rfl) (ixN_int h13.1 h13.2) (pg_sub pe_w1 pe_w1 set_list) rfl ?_
    have hk := h14
    obtain ⟨h9, h10⟩ := hk
    refine run_ifP (s1 := (v_st ++ [(Txt.join (Str.ofString "") (cut v_base none (some ((1 : Int) + (v_it : Int)))))])) (s2 := (v_st ++ [(Txt.join (Str.ofString "") (cut (List.set v_other (Int.toNat v_at) (sgn (Str.ofString "abcdefghijklmnopqrstuvwxyz") (((m_law_mix v_cell ((3 : Int))) + (v_it : Int)) % (26 : Int)))) none (some v_size)))])) (fun v_st_1 : ((List Str)) => [Zf (Dt.int v_cell), Zf (Dt.int v_many), Zf (Dt.str (Str.ofString "abcdefghijklmnopqrstuvwxyz")), some (.ol (List.map Dt.str v_base)), Zf (Dt.int v_size), Zf (Dt.int v_at), some (.ol (List.map Dt.str v_st_1)), Zf (Dt.int (v_it : Int)), some (.ol (List.map Dt.str (List.set v_other (Int.toNat v_at) (sgn (Str.ofString "abcdefghijklmnopqrstuvwxyz") (((m_law_mix v_cell ((3 : Int))) + (v_it : Int)) % (26 : Int))))))]) (fun v_st_1 => (Step.out (fun v_st : ((List Str)) => [Zf (Dt.int v_cell), Zf (Dt.int v_many), Zf (Dt.str (Str.ofString "abcdefghijklmnopqrstuvwxyz")), some (.ol (List.map Dt.str v_base)), Zf (Dt.int v_size), Zf (Dt.int v_at), some (.ol (List.map Dt.str v_st)), none, none]) (fun x : (List Str) => .rt (.ol (List.map Dt.str x)) none) (m_law_words_1 v_st_1))) (fun _ => True) (eb_cmp says_eqI (ex_mod (xv 0 rfl) ex_int (by decide)) ex_int) trivial (fun hb => ?_) (fun hb => ?_) (fun v_st_1 _ => ?_)
    · have hk := h9 hb
      obtain ⟨h5, h6⟩ := hk
      refine run_append (i := 6) (π := []) (xs := v_st) (y := (Txt.join (Str.ofString "") (cut v_base none (some ((1 : Int) + (v_it : Int)))))) (G' := [Zf (Dt.int v_cell), Zf (Dt.int v_many), Zf (Dt.str (Str.ofString "abcdefghijklmnopqrstuvwxyz")), some (.ol (List.map Dt.str v_base)), Zf (Dt.int v_size), Zf (Dt.int v_at), some (.ol (List.map Dt.str (v_st ++ [(Txt.join (Str.ofString "") (cut v_base none (some ((1 : Int) + (v_it : Int)))))]))), Zf (Dt.int (v_it : Int)), some (.ol (List.map Dt.str (List.set v_other (Int.toNat v_at) (sgn (Str.ofString "abcdefghijklmnopqrstuvwxyz") (((m_law_mix v_cell ((3 : Int))) + (v_it : Int)) % (26 : Int))))))]) Dt.str rfl (pp 6 rfl) rfl (x_join (fun _ => rfl) (ex_str (h := by decide +kernel)) (EN.es (x_sliceL Dt.str (fun _ => rfl) (EP.es (pp 3 rfl) rfl) eo_none (eo_some (ex_add ex_int (xv 7 rfl))))) h5) h6 rfl ?_
      exact run_end (.keep (.keep (.keep (.keep (.keep (.keep (.keep (.keep (.keep .nil)))))))))
    · have hk := h10 hb
      obtain ⟨h7, h8⟩ := hk
      refine run_append (i := 6) (π := []) (xs := v_st) (y := (Txt.join (Str.ofString "") (cut (List.set v_other (Int.toNat v_at) (sgn (Str.ofString "abcdefghijklmnopqrstuvwxyz") (((m_law_mix v_cell ((3 : Int))) + (v_it : Int)) % (26 : Int)))) none (some v_size)))) (G' := [Zf (Dt.int v_cell), Zf (Dt.int v_many), Zf (Dt.str (Str.ofString "abcdefghijklmnopqrstuvwxyz")), some (.ol (List.map Dt.str v_base)), Zf (Dt.int v_size), Zf (Dt.int v_at), some (.ol (List.map Dt.str (v_st ++ [(Txt.join (Str.ofString "") (cut (List.set v_other (Int.toNat v_at) (sgn (Str.ofString "abcdefghijklmnopqrstuvwxyz") (((m_law_mix v_cell ((3 : Int))) + (v_it : Int)) % (26 : Int)))) none (some v_size)))]))), Zf (Dt.int (v_it : Int)), some (.ol (List.map Dt.str (List.set v_other (Int.toNat v_at) (sgn (Str.ofString "abcdefghijklmnopqrstuvwxyz") (((m_law_mix v_cell ((3 : Int))) + (v_it : Int)) % (26 : Int))))))]) Dt.str rfl (pp 6 rfl) rfl (x_join (fun _ => rfl) (ex_str (h := by decide +kernel)) (EN.es (x_sliceL Dt.str (fun _ => rfl) (EP.es (pp 8 rfl) rfl) eo_none (eo_some (xv 4 rfl)))) h7) h8 rfl ?_
      exact run_end (.keep (.keep (.keep (.keep (.keep (.keep (.keep (.keep (.keep .nil)))))))))
    · exact run_end (.keep (.keep (.keep (.keep (.keep (.keep (.keep (.drop (.drop .nil)))))))))
  · exact run_retV (i := 6) rfl rfl (by first | exact Or.inl rfl | exact Or.inr (Or.inl rfl))
theorem ok_law_words (T : Txt K mg) (c_law_mix : Callee P w K mg base "_law_mix" 1 2 r_law_mix) {f : Addr} {fd : FuncData} (F : FunD K "_law_words" "_law_words" (defArgs s_law_words) (defBody s_law_words) (defScope s_law_words) [] [] f fd) : FnOk P w K mg base (L2.CX P w) 2 f fd ["_law_cell", "_law_many"] (spR K 2 r_law_words) :=
  fnOk_mk F sc_law_words (fun cdv A outer s H E ds a hr hR hn => by
    obtain ⟨v_cell, v_many, hk, rfl, rfl⟩ := hR
    exact ⟨_, .rt _, run_law_words T c_law_mix hr v_cell v_many hk⟩)
theorem mk_law_words (T : Txt K mg) (c_law_mix : Callee P w K mg base "_law_mix" 1 2 r_law_mix) {f : Addr} {fd : FuncData} (F : FunD K "_law_words" "_law_words" (defArgs s_law_words) (defBody s_law_words) (defScope s_law_words) [] [] f fd) {x : Str} (gf : mg x = some (.ref f)) : Callee P w K mg base x 2 2 r_law_words :=
  ⟨f, fd, ["_law_cell", "_law_many"], ok_law_words T c_law_mix F, gf, F.kp, FunD.bindsN F fun _ _ _ _ _ _ us hl => match us, hl with | [_, _], _ => rfl⟩
end
/-! law_statement -/
def m_law_statement_1 (v_some : (List Str)) (v_st : ((List Str) × Int)) (v_rest_1 : Int) : (Step ((List Str) × Int) (Str × Str × (List Str))) := (.nx ((v_st.1 ++ [(itm v_some (v_st.2 % ((v_some).length : Int)))]), v_rest_1))
def m_law_statement_2 (v_some : (List Str)) (v_st : ((List Str) × Int)) (v_it : Nat) : Step ((List Str) × Int) (Str × Str × (List Str)) := (m_law_statement_1 v_some v_st (v_st.2 / ((v_some).length : Int)))
def k_law_statement_2 (v_some : (List Str)) (v_st : ((List Str) × Int)) (v_it : Nat) : Prop := (((0 : Int) < ((v_some).length : Int)) ∧ (inI v_some (v_st.2 % ((v_some).length : Int)) = true) ∧ ((v_st.1).length + 1 ≤ big) ∧ ((0 : Int) < ((v_some).length : Int) ∧ ((v_some).length : Int) < 1073741824))
def m_law_statement_3 (v_number : Int) (v_names : (List Str)) (v_st : ((List Str) × Int)) : (Str × Str × (List Str)) := ((itm [(Str.ofString ""), (Str.ofString "-")] (v_number % (2 : Int))), (itm v_names (v_st.2 % ((v_names).length : Int))), v_st.1)
def k_law_statement_3 (v_number : Int) (v_names : (List Str)) (v_st : ((List Str) × Int)) : Prop := ((inI [(Str.ofString ""), (Str.ofString "-")] (v_number % (2 : Int)) = true) ∧ ((0 : Int) < ((v_names).length : Int)) ∧ (inI v_names (v_st.2 % ((v_names).length : Int)) = true))
def m_law_statement_4 (v_number : Int) (v_names : (List Str)) (v_some : (List Str)) (v_places : (List Str)) (v_rest : Int) : (Str × Str × (List Str)) := (loop (m_law_statement_2 v_some) (fun y => y) (m_law_statement_3 v_number v_names) (List.range (Int.toNat ((v_number / (2 : Int)) % (3 : Int)))) (v_places, v_rest))
def k_law_statement_4 (v_number : Int) (v_names : (List Str)) (v_some : (List Str)) (v_places : (List Str)) (v_rest : Int) : Prop := ((rngOk ((v_number / (2 : Int)) % (3 : Int))) ∧ (LoopAll (k_law_statement_2 v_some) (k_law_statement_3 v_number v_names) (m_law_statement_2 v_some) (List.range (Int.toNat ((v_number / (2 : Int)) % (3 : Int)))) (v_places, v_rest)))
def m_law_statement_5 (v_number : Int) (v_names : (List Str)) (v_some : (List Str)) (v_places : (List Str)) : (Str × Str × (List Str)) := (m_law_statement_4 v_number v_names v_some v_places (v_number / (6 : Int)))
def k_law_statement_5 (v_number : Int) (v_names : (List Str)) (v_some : (List Str)) (v_places : (List Str)) : Prop := (k_law_statement_4 v_number v_names v_some v_places (v_number / (6 : Int)))
def m_law_statement (v_number : Int) (v_names : (List Str)) (v_some : (List Str)) : (Str × Str × (List Str)) := (m_law_statement_5 v_number v_names v_some [])
def k_law_statement (v_number : Int) (v_names : (List Str)) (v_some : (List Str)) : Prop := (k_law_statement_5 v_number v_names v_some [])
abbrev s_law_statement : Stmt := top 30
theorem sc_law_statement : FnScope ["_law_number", "_law_names", "_law_some", "_law_places", "_law_rest", "_law_k"] ["_law_number", "_law_names", "_law_some"] (defScope s_law_statement) := ⟨rfl, rfl, rfl, by decide +kernel, rfl, by decide +kernel, by decide +kernel⟩
def r_law_statement : List Dt → Sum Cell Xc → Prop := fun ds a => ∃ (v_number : Int) (v_names : (List Str)) (v_some : (List Str)), k_law_statement v_number v_names v_some ∧ ds = [(Dt.int v_number), (e0_list v_names), (e0_list v_some)] ∧ a = .inl (.fz (e1_tup (m_law_statement v_number v_names v_some)))
section
variable {P : Program} {w : World} {K : PySem.W.Frag} {mg : Str → Option Value} {base : Heap}
theorem run_law_statement (T : Txt K mg)  {f : Addr} {cdv : Value} {A : Around} {outer : List PySem.Env} {s : Shared} {H : Hp} {E : XK} (hr : Room 0 (A.deeper (PyProof.Rows.envOfC "_law_statement" (defScope s_law_statement) s.heap.objs.size f cdv))) (v_number : Int) (v_names : (List Str)) (v_some : (List Str)) (hk : k_law_statement v_number v_names v_some) :
    Run (cxOf (L2.CX P w) P w K mg base ["_law_number", "_law_names", "_law_some", "_law_places", "_law_rest", "_law_k"] "_law_statement" (defScope s_law_statement) f cdv A outer s H E) K (wE E) sv0 (defBody s_law_statement) (start0 ["_law_number", "_law_names", "_law_some", "_law_places", "_law_rest", "_law_k"] [(Dt.int v_number), (e0_list v_names), (e0_list v_some)]) (.rt (.fz (e1_tup (m_law_statement v_number v_names v_some))) none) := by
  have h12 := hk
  refine run_asgE (i := 3) [] (fun v_places => .ol (List.map Dt.str v_places)) (fun _ => _) (fun v_places => [Zf (Dt.int v_number), Zf (e0_list v_names), Zf (e0_list v_some), some (.ol (List.map Dt.str v_places)), none, none]) (fun v_places => .rt (.fz (e1_tup (m_law_statement_5 v_number v_names v_some v_places))) none) (k_law_statement_5 v_number v_names v_some) (EN.ev (en_lst ea_nil (Nat.le_of_ble_eq_true rfl))) h12 sc_law_statement.nd (fun _ => rfl) (fun v_places hk => ?_)
  have h11 := hk
  refine run_asgE (i := 4) (v_number / (6 : Int)) (fun v_rest => .fz (Dt.int v_rest)) (fun _ => _) (fun v_rest => [Zf (Dt.int v_number), Zf (e0_list v_names), Zf (e0_list v_some), some (.ol (List.map Dt.str v_places)), Zf (Dt.int v_rest), none]) (fun v_rest => .rt (.fz (e1_tup (m_law_statement_4 v_number v_names v_some v_places v_rest))) none) (k_law_statement_4 v_number v_names v_some v_places) (EX.ev (ex_fdiv (xv 0 rfl) ex_int ⟨by decide, by decide⟩)) h11 sc_law_statement.nd (fun _ => rfl) (fun v_rest hk => ?_)
  obtain ⟨h9, h10⟩ := hk
  refine run_forQ (js := [5]) (P := (k_law_statement_2 v_some)) (Q := (k_law_statement_3 v_number v_names)) (s0 := (v_places, v_rest)) (fun i : Nat => Dt.int (i : Int)) (fun v_st : ((List Str) × Int) => [Zf (Dt.int v_number), Zf (e0_list v_names), Zf (e0_list v_some), some (.ol (List.map Dt.str v_st.1)), Zf (Dt.int v_st.2), none]) (fun (v_st : ((List Str) × Int)) (v_it : Nat) => [Zf (Dt.int v_number), Zf (e0_list v_names), Zf (e0_list v_some), some (.ol (List.map Dt.str v_st.1)), Zf (Dt.int v_st.2), Zf (Dt.int (v_it : Int))]) (fun x : (Str × Str × (List Str)) => .rt (.fz (e1_tup x)) none) (m_law_statement_2 v_some) (fun y => y) (m_law_statement_3 v_number v_names) (passes_of rfl) rfl (pg_name (i := 5) sc_law_statement.nd rfl (by first | exact Or.inl rfl | exact Or.inr rfl)) rfl (fun _ => trivial) (src_range1 rfl T.n_range (ex_mod (ex_fdiv (xv 0 rfl) ex_int ⟨by decide, by decide⟩) ex_int (by decide)) h9.1 h9.2) (.keep (.keep (.keep (.keep (.keep (.keep .nil)))))) (fun _ _ => (bd_name (Nat.blt_eq.mp rfl))) h10 (fun v_st v_it hm hk => ?_) (fun v_st hk => ?_)
  · obtain ⟨h2, h3, h4, h5⟩ := hk
    refine run_append (i := 3) (π := []) (xs := v_st.1) (y := (itm v_some (v_st.2 % ((v_some).length : Int)))) (G' := [Zf (Dt.int v_number), Zf (e0_list v_names), Zf (e0_list v_some), some (.ol (List.map Dt.str (v_st.1 ++ [(itm v_some (v_st.2 % ((v_some).length : Int)))]))), Zf (Dt.int v_st.2), Zf (Dt.int (v_it : Int))]) Dt.str rfl (pp 3 rfl) rfl (x_ix Dt.str (fun _ => rfl) (EX.esL (xv 2 rfl)) (ex_mod (xv 4 rfl) (x_len Dt.str (fun _ => rfl) (EX.esL (xv 2 rfl)) (fun _ => rfl) (fun _ => T.n_len)) h2) h3) h4 rfl ?_
    have hk := h5
    have h1 := hk
    refine run_asgE (i := 4) (v_st.2 / ((v_some).length : Int)) (fun v_rest_1 => .fz (Dt.int v_rest_1)) (fun _ => _) (fun v_rest_1 => [Zf (Dt.int v_number), Zf (e0_list v_names), Zf (e0_list v_some), some (.ol (List.map Dt.str (v_st.1 ++ [(itm v_some (v_st.2 % ((v_some).length : Int)))]))), Zf (Dt.int v_rest_1), Zf (Dt.int (v_it : Int))]) (fun v_rest_1 => (Step.out (fun v_st : ((List Str) × Int) => [Zf (Dt.int v_number), Zf (e0_list v_names), Zf (e0_list v_some), some (.ol (List.map Dt.str v_st.1)), Zf (Dt.int v_st.2), none]) (fun x : (Str × Str × (List Str)) => .rt (.fz (e1_tup x)) none) (m_law_statement_1 v_some v_st v_rest_1))) (fun _ => True) (EX.ev (ex_fdiv (xv 4 rfl) (x_len Dt.str (fun _ => rfl) (EX.esL (xv 2 rfl)) (fun _ => rfl) (fun _ => T.n_len)) h1)) trivial sc_law_statement.nd (fun _ => rfl) (fun v_rest_1 _ => ?_)
    exact run_end (.keep (.keep (.keep (.keep (.keep (.drop .nil))))))
  · refine run_freezeQ (i := 3) (π := []) (G' := [Zf (Dt.int v_number), Zf (e0_list v_names), Zf (e0_list v_some), Zf (e0_list v_st.1), Zf (Dt.int v_st.2), none]) rfl rfl rfl ?_
    obtain ⟨h6, h7, h8⟩ := hk
    exact run_ret (ex_tup (ea_cons (x_ix Dt.str (fun _ => rfl) (EN.es (en_lst (ea_cons (ex_str (h := by decide +kernel)) (ea_cons (ex_str (h := by decide +kernel)) ea_nil)) (Nat.le_of_ble_eq_true rfl))) (ex_mod (xv 0 rfl) ex_int (by decide)) h6) (ea_cons (x_ix Dt.str (fun _ => rfl) (EX.esL (xv 1 rfl)) (ex_mod (xv 4 rfl) (x_len Dt.str (fun _ => rfl) (EX.esL (xv 1 rfl)) (fun _ => rfl) (fun _ => T.n_len)) h7) h8) (ea_cons (xv 3 rfl) ea_nil))) (Nat.le_of_ble_eq_true rfl))
theorem ok_law_statement (T : Txt K mg)  {f : Addr} {fd : FuncData} (F : FunD K "_law_statement" "_law_statement" (defArgs s_law_statement) (defBody s_law_statement) (defScope s_law_statement) [] [] f fd) : FnOk P w K mg base (L2.CX P w) 1 f fd ["_law_number", "_law_names", "_law_some"] (spR K 3 r_law_statement) :=
  fnOk_mk F sc_law_statement (fun cdv A outer s H E ds a hr hR hn => by
    obtain ⟨v_number, v_names, v_some, hk, rfl, rfl⟩ := hR
    exact ⟨_, .rt _, run_law_statement T  hr v_number v_names v_some hk⟩)
theorem mk_law_statement (T : Txt K mg)  {f : Addr} {fd : FuncData} (F : FunD K "_law_statement" "_law_statement" (defArgs s_law_statement) (defBody s_law_statement) (defScope s_law_statement) [] [] f fd) {x : Str} (gf : mg x = some (.ref f)) : Callee P w K mg base x 1 3 r_law_statement :=
  ⟨f, fd, ["_law_number", "_law_names", "_law_some"], ok_law_statement T  F, gf, F.kp, FunD.bindsN F fun _ _ _ _ _ _ us hl => match us, hl with | [_, _, _], _ => rfl⟩
end
/-! law_specs -/
def m_law_specs_2  (v_some_2 : (List Str)) : ((List Str) × Int) := (v_some_2, (1 : Int))
def m_law_specs_4  (v_numbers_1 : (List Int)) : ((List Int)) := v_numbers_1
def m_law_specs_5 (v_names : (List Str)) (v_st : ((List Str) × Int)) (v_st_1 : ((List Int))) : (List (Str × Str × (List Str))) := (List.map (fun v_item_4 : Int => (m_law_statement v_item_4 v_names v_st.1)) v_st_1)
def k_law_specs_5 (v_names : (List Str)) (v_st : ((List Str) × Int)) (v_st_1 : ((List Int))) : Prop := (((v_st_1).length ≤ big) ∧ (∀ v_item_4 ∈ v_st_1, (k_law_statement v_item_4 v_names v_st.1)))
def m_law_specs_6 (v_script : (List Int)) (v_names : (List Str)) (v_st : ((List Str) × Int)) (v_numbers : (List Int)) : (List (Str × Str × (List Str))) := (m_law_specs_5 v_names v_st (cond ((((m_law_cell_at v_script ((2 : Int))) / (20 : Int)) % (2 : Int)) == (1 : Int)) (m_law_specs_4 (List.map (fun v_item_2 : Int => (m_law_mix v_item_2 ((6 : Int)))) v_numbers)) v_numbers))
def k_law_specs_6 (v_script : (List Int)) (v_names : (List Str)) (v_st : ((List Str) × Int)) (v_numbers : (List Int)) : Prop := ((k_law_cell_at v_script ((2 : Int))) ∧ (((((m_law_cell_at v_script ((2 : Int))) / (20 : Int)) % (2 : Int)) == (1 : Int)) = true → (((v_numbers).length ≤ big) ∧ (∀ v_item_2 ∈ v_numbers, (k_law_mix v_item_2 ((6 : Int)))))) ∧ (k_law_specs_5 v_names v_st (cond ((((m_law_cell_at v_script ((2 : Int))) / (20 : Int)) % (2 : Int)) == (1 : Int)) (m_law_specs_4 (List.map (fun v_item_2 : Int => (m_law_mix v_item_2 ((6 : Int)))) v_numbers)) v_numbers)))
def m_law_specs_7 (v_script : (List Int)) (v_names : (List Str)) (v_st : ((List Str) × Int)) : (List (Str × Str × (List Str))) := (m_law_specs_6 v_script v_names v_st (List.map (fun v_item_1 : Nat => (m_law_cell_at v_script (((3 : Int) + (v_item_1 : Int))))) (List.range (Int.toNat v_st.2))))
def k_law_specs_7 (v_script : (List Int)) (v_names : (List Str)) (v_st : ((List Str) × Int)) : Prop := ((rngOk v_st.2) ∧ (((List.range (Int.toNat v_st.2))).length ≤ big) ∧ (∀ v_item_1 ∈ (List.range (Int.toNat v_st.2)), (k_law_cell_at v_script (((3 : Int) + (v_item_1 : Int))))) ∧ (k_law_specs_6 v_script v_names v_st (List.map (fun v_item_1 : Nat => (m_law_cell_at v_script (((3 : Int) + (v_item_1 : Int))))) (List.range (Int.toNat v_st.2)))))
def m_law_specs_8 (v_script : (List Int)) (v_kind : Int) (v_things : (List Str)) (v_names : (List Str)) (v_some_1 : (List Str)) (v_many : Int) : (List (Str × Str × (List Str))) := (m_law_specs_7 v_script v_names (cond (v_kind == (3 : Int)) (m_law_specs_2 ([(itm v_things (0 : Int)), (itm v_things (-(1 : Int))), (itm v_names (0 : Int))])) (v_some_1, v_many)))
def k_law_specs_8 (v_script : (List Int)) (v_kind : Int) (v_things : (List Str)) (v_names : (List Str)) (v_some_1 : (List Str)) (v_many : Int) : Prop := (((v_kind == (3 : Int)) = true → ((inI v_things (0 : Int) = true) ∧ (inI v_things (-(1 : Int)) = true) ∧ (inI v_names (0 : Int) = true))) ∧ (k_law_specs_7 v_script v_names (cond (v_kind == (3 : Int)) (m_law_specs_2 ([(itm v_things (0 : Int)), (itm v_things (-(1 : Int))), (itm v_names (0 : Int))])) (v_some_1, v_many))))
def m_law_specs_9 (v_script : (List Int)) (v_kind : Int) (v_things : (List Str)) (v_names : (List Str)) (v_some_1 : (List Str)) : (List (Str × Str × (List Str))) := (m_law_specs_8 v_script v_kind v_things v_names v_some_1 ((1 : Int) + (((m_law_cell_at v_script ((2 : Int))) / (4 : Int)) % (5 : Int))))
def k_law_specs_9 (v_script : (List Int)) (v_kind : Int) (v_things : (List Str)) (v_names : (List Str)) (v_some_1 : (List Str)) : Prop := ((k_law_cell_at v_script ((2 : Int))) ∧ (k_law_specs_8 v_script v_kind v_things v_names v_some_1 ((1 : Int) + (((m_law_cell_at v_script ((2 : Int))) / (4 : Int)) % (5 : Int)))))
def m_law_specs_10 (v_script : (List Int)) (v_kind : Int) (v_things : (List Str)) (v_names : (List Str)) (v_some : (List Str)) : (List (Str × Str × (List Str))) := (m_law_specs_9 v_script v_kind v_things v_names (v_some ++ [(itm v_things (0 : Int)), (itm v_things (-(1 : Int))), (itm v_names (0 : Int))]))
def k_law_specs_10 (v_script : (List Int)) (v_kind : Int) (v_things : (List Str)) (v_names : (List Str)) (v_some : (List Str)) : Prop := ((inI v_things (0 : Int) = true) ∧ (inI v_things (-(1 : Int)) = true) ∧ (inI v_names (0 : Int) = true) ∧ ((v_some).length + ([(itm v_things (0 : Int)), (itm v_things (-(1 : Int))), (itm v_names (0 : Int))]).length ≤ big) ∧ (k_law_specs_9 v_script v_kind v_things v_names (v_some ++ [(itm v_things (0 : Int)), (itm v_things (-(1 : Int))), (itm v_names (0 : Int))])))
def m_law_specs_11 (v_script : (List Int)) (v_kind : Int) (v_things : (List Str)) (v_names : (List Str)) (v_first : Int) : (List (Str × Str × (List Str))) := (m_law_specs_10 v_script v_kind v_things v_names (List.map (fun v_item : Nat => (sgn (Str.ofString "ABCDEFGHIJKLMNOPQRSTUVWXYZ") ((v_first + ((9 : Int) * (v_item : Int))) % (26 : Int)))) (List.range (Int.toNat ((1 : Int) + ((m_law_mix ((m_law_cell_at v_script ((2 : Int)))) ((2 : Int))) % (3 : Int)))))))
def k_law_specs_11 (v_script : (List Int)) (v_kind : Int) (v_things : (List Str)) (v_names : (List Str)) (v_first : Int) : Prop := ((k_law_cell_at v_script ((2 : Int))) ∧ (k_law_mix ((m_law_cell_at v_script ((2 : Int)))) ((2 : Int))) ∧ (rngOk ((1 : Int) + ((m_law_mix ((m_law_cell_at v_script ((2 : Int)))) ((2 : Int))) % (3 : Int)))) ∧ (((List.range (Int.toNat ((1 : Int) + ((m_law_mix ((m_law_cell_at v_script ((2 : Int)))) ((2 : Int))) % (3 : Int)))))).length ≤ big) ∧ (∀ v_item ∈ (List.range (Int.toNat ((1 : Int) + ((m_law_mix ((m_law_cell_at v_script ((2 : Int)))) ((2 : Int))) % (3 : Int))))), ((atI ((Str.ofString "ABCDEFGHIJKLMNOPQRSTUVWXYZ")).cps.toList ((v_first + ((9 : Int) * (v_item : Int))) % (26 : Int))).isSome = true)) ∧ (k_law_specs_10 v_script v_kind v_things v_names (List.map (fun v_item : Nat => (sgn (Str.ofString "ABCDEFGHIJKLMNOPQRSTUVWXYZ") ((v_first + ((9 : Int) * (v_item : Int))) % (26 : Int)))) (List.range (Int.toNat ((1 : Int) + ((m_law_mix ((m_law_cell_at v_script ((2 : Int)))) ((2 : Int))) % (3 : Int))))))))
def m_law_specs (v_script : (List Int)) (v_kind : Int) (v_things : (List Str)) (v_names : (List Str)) : (List (Str × Str × (List Str))) := (m_law_specs_11 v_script v_kind v_things v_names (m_law_mix ((m_law_cell_at v_script ((2 : Int)))) ((1 : Int))))
def k_law_specs (v_script : (List Int)) (v_kind : Int) (v_things : (List Str)) (v_names : (List Str)) : Prop := ((k_law_cell_at v_script ((2 : Int))) ∧ (k_law_mix ((m_law_cell_at v_script ((2 : Int)))) ((1 : Int))) ∧ (k_law_specs_11 v_script v_kind v_things v_names (m_law_mix ((m_law_cell_at v_script ((2 : Int)))) ((1 : Int)))))
abbrev s_law_specs : Stmt := top 34
theorem sc_law_specs : FnScope ["_law_script", "_law_kind", "_law_things", "_law_names", "_law_signs", "_law_first", "_law_some", "_law_many", "_law_numbers", "_law_k", "_law_number", "_law_cell"] ["_law_script", "_law_kind", "_law_things", "_law_names"] (defScope s_law_specs) := ⟨rfl, rfl, rfl, by decide +kernel, rfl, by decide +kernel, by decide +kernel⟩
def r_law_specs : List Dt → Sum Cell Xc → Prop := fun ds a => ∃ (v_script : (List Int)) (v_kind : Int) (v_things : (List Str)) (v_names : (List Str)), k_law_specs v_script v_kind v_things v_names ∧ ds = [(e2_scr v_script), (Dt.int v_kind), (e0_list v_things), (e0_list v_names)] ∧ a = .inl (.ol (List.map e1_tup (m_law_specs v_script v_kind v_things v_names)))
section
variable {P : Program} {w : World} {K : PySem.W.Frag} {mg : Str → Option Value} {base : Heap}
theorem run_law_specs (T : Txt K mg) (c_law_cell_at : Callee P w K mg base "_law_cell_at" 1 2 r_law_cell_at) (c_law_mix : Callee P w K mg base "_law_mix" 1 2 r_law_mix) (c_law_statement : Callee P w K mg base "_law_statement" 1 3 r_law_statement) {f : Addr} {cdv : Value} {A : Around} {outer : List PySem.Env} {s : Shared} {H : Hp} {E : XK} (hr : Room 1 (A.deeper (PyProof.Rows.envOfC "_law_specs" (defScope s_law_specs) s.heap.objs.size f cdv))) (v_script : (List Int)) (v_kind : Int) (v_things : (List Str)) (v_names : (List Str)) (hk : k_law_specs v_script v_kind v_things v_names) :
    Run (cxOf (L2.CX P w) P w K mg base ["_law_script", "_law_kind", "_law_things", "_law_names", "_law_signs", "_law_first", "_law_some", "_law_many", "_law_numbers", "_law_k", "_law_number", "_law_cell"] "_law_specs" (defScope s_law_specs) f cdv A outer s H E) K (wE E) sv0 (defBody s_law_specs) (start0 ["_law_script", "_law_kind", "_law_things", "_law_names", "_law_signs", "_law_first", "_law_some", "_law_many", "_law_numbers", "_law_k", "_law_number", "_law_cell"] [(e2_scr v_script), (Dt.int v_kind), (e0_list v_things), (e0_list v_names)]) (.rt (.ol (List.map e1_tup (m_law_specs v_script v_kind v_things v_names))) none) := by
  have h38 := hk
  refine run_asgQ (i := 4) (Gk := [Zf (e2_scr v_script), Zf (Dt.int v_kind), Zf (e0_list v_things), Zf (e0_list v_names), Zf (Dt.str (Str.ofString "ABCDEFGHIJKLMNOPQRSTUVWXYZ")), none, none, none, none, none, none, none]) (EX.ev (ex_str (h := by decide +kernel))) sc_law_specs.nd rfl ?_
  have hk := h38
  obtain ⟨h35, h36, h37⟩ := hk
  refine run_asgE (i := 5) (m_law_mix ((m_law_cell_at v_script ((2 : Int)))) ((1 : Int))) (fun v_first => .fz (Dt.int v_first)) (fun _ => _) (fun v_first => [Zf (e2_scr v_script), Zf (Dt.int v_kind), Zf (e0_list v_things), Zf (e0_list v_names), Zf (Dt.str (Str.ofString "ABCDEFGHIJKLMNOPQRSTUVWXYZ")), Zf (Dt.int v_first), none, none, none, none, none, none]) (fun v_first => .rt (.ol (List.map e1_tup (m_law_specs_11 v_script v_kind v_things v_names v_first))) none) (k_law_specs_11 v_script v_kind v_things v_names) (EX.ev (ex_call c_law_mix (fun _ => ⟨rfl, rfl, rfl, rfl, rfl⟩) (fun _ => hr.mono (by decide)) (fun _ => rfl) (ea_cons (ex_call c_law_cell_at (fun _ => ⟨rfl, rfl, rfl, rfl, rfl⟩) (fun _ => hr.mono (by decide)) (fun _ => rfl) (ea_cons (xv 0 rfl) (ea_cons ex_int ea_nil)) rfl ⟨v_script, (2 : Int), h35, rfl, rfl⟩) (ea_cons ex_int ea_nil)) rfl ⟨(m_law_cell_at v_script ((2 : Int))), (1 : Int), h36, rfl, rfl⟩)) h37 sc_law_specs.nd (fun _ => rfl) (fun v_first hk => ?_)
  obtain ⟨h29, h30, h31, h32, h33, h34⟩ := hk
  refine run_asgE (i := 6) (List.map (fun v_item : Nat => (sgn (Str.ofString "ABCDEFGHIJKLMNOPQRSTUVWXYZ") ((v_first + ((9 : Int) * (v_item : Int))) % (26 : Int)))) (List.range (Int.toNat ((1 : Int) + ((m_law_mix ((m_law_cell_at v_script ((2 : Int)))) ((2 : Int))) % (3 : Int)))))) (fun v_some => .fz (e0_list v_some)) (fun _ => _) (fun v_some => [Zf (e2_scr v_script), Zf (Dt.int v_kind), Zf (e0_list v_things), Zf (e0_list v_names), Zf (Dt.str (Str.ofString "ABCDEFGHIJKLMNOPQRSTUVWXYZ")), Zf (Dt.int v_first), Zf (e0_list v_some), none, none, none, none, none]) (fun v_some => .rt (.ol (List.map e1_tup (m_law_specs_10 v_script v_kind v_things v_names v_some))) none) (k_law_specs_10 v_script v_kind v_things v_names) (EX.ev (EN.frz (EN.isL (x_lc (own := [("_law_k", 9)]) (fun i : Nat => Dt.int (i : Int)) (fun v_item : Nat => [Zf (e2_scr v_script), Zf (Dt.int v_kind), Zf (e0_list v_things), Zf (e0_list v_names), Zf (Dt.str (Str.ofString "ABCDEFGHIJKLMNOPQRSTUVWXYZ")), Zf (Dt.int v_first), none, none, none, Zf (Dt.int (v_item : Int)), none, none]) (fun v_item : Nat => true) (fun v_item : Nat => (Dt.str (sgn (Str.ofString "ABCDEFGHIJKLMNOPQRSTUVWXYZ") ((v_first + ((9 : Int) * (v_item : Int))) % (26 : Int))))) rfl sc_law_specs.nd (src_range1 rfl T.n_range (ex_add ex_int (ex_mod (ex_call c_law_mix (fun _ => ⟨rfl, rfl, rfl, rfl, rfl⟩) (fun _ => hr.mono (by decide)) (fun _ => rfl) (ea_cons (ex_call c_law_cell_at (fun _ => ⟨rfl, rfl, rfl, rfl, rfl⟩) (fun _ => hr.mono (by decide)) (fun _ => rfl) (ea_cons (xv 0 rfl) (ea_cons ex_int ea_nil)) rfl ⟨v_script, (2 : Int), h29, rfl, rfl⟩) (ea_cons ex_int ea_nil)) rfl ⟨(m_law_cell_at v_script ((2 : Int))), (2 : Int), h30, rfl, rfl⟩) ex_int (by decide))) h31.1 h31.2) h32 (blkOk_by (by decide +kernel : blkC ["_law_script", "_law_kind", "_law_things", "_law_names", "_law_signs", "_law_first", "_law_some", "_law_many", "_law_numbers", "_law_k", "_law_number", "_law_cell"] (defScope s_law_specs) _ [("_law_k", 9)] = true)) (by decide) (fun _ => (pg_name (i := 9) sc_law_specs.nd rfl (by first | exact Or.inl rfl | exact Or.inr rfl))) (fun _ => (bd_name (Nat.blt_eq.mp rfl))) ⟨tYes, fun _ => pts_nil, fun _ _ F H σ fps Q E q => q F H (Up.refl E.sub)⟩ (fun v_item hm hp => (x_ixS (xv 4 rfl) (ex_mod (ex_add (xv 5 rfl) (ex_mul ex_int (xv 9 rfl) (.inl ⟨by decide, by decide⟩))) ex_int (by decide)) (h33 v_item hm)))) (lcM_enc Dt.str (fun v_item : Nat => (sgn (Str.ofString "ABCDEFGHIJKLMNOPQRSTUVWXYZ") ((v_first + ((9 : Int) * (v_item : Int))) % (26 : Int)))) (List.range (Int.toNat ((1 : Int) + ((m_law_mix ((m_law_cell_at v_script ((2 : Int)))) ((2 : Int))) % (3 : Int))))))) rfl)) h34 sc_law_specs.nd (fun _ => rfl) (fun v_some hk => ?_)
  obtain ⟨h24, h25, h26, h27, h28⟩ := hk
  refine run_asgE (i := 6) (v_some ++ [(itm v_things (0 : Int)), (itm v_things (-(1 : Int))), (itm v_names (0 : Int))]) (fun v_some_1 => .fz (e0_list v_some_1)) (fun _ => _) (fun v_some_1 => [Zf (e2_scr v_script), Zf (Dt.int v_kind), Zf (e0_list v_things), Zf (e0_list v_names), Zf (Dt.str (Str.ofString "ABCDEFGHIJKLMNOPQRSTUVWXYZ")), Zf (Dt.int v_first), Zf (e0_list v_some_1), none, none, none, none, none]) (fun v_some_1 => .rt (.ol (List.map e1_tup (m_law_specs_9 v_script v_kind v_things v_names v_some_1))) none) (k_law_specs_9 v_script v_kind v_things v_names) (EX.ev (EN.frz (x_catL Dt.str (xv 6 rfl) (EN.frz (en_lst (ea_cons (x_ix Dt.str (fun _ => rfl) (EX.esL (xv 2 rfl)) ex_int h24) (ea_cons (x_ix Dt.str (fun _ => rfl) (EX.esL (xv 2 rfl)) (ex_neg ex_int) h25) (ea_cons (x_ix Dt.str (fun _ => rfl) (EX.esL (xv 3 rfl)) ex_int h26) ea_nil))) (Nat.le_of_ble_eq_true rfl)) rfl) h27) rfl)) h28 sc_law_specs.nd (fun _ => rfl) (fun v_some_1 hk => ?_)
  obtain ⟨h22, h23⟩ := hk
  refine run_asgE (i := 7) ((1 : Int) + (((m_law_cell_at v_script ((2 : Int))) / (4 : Int)) % (5 : Int))) (fun v_many => .fz (Dt.int v_many)) (fun _ => _) (fun v_many => [Zf (e2_scr v_script), Zf (Dt.int v_kind), Zf (e0_list v_things), Zf (e0_list v_names), Zf (Dt.str (Str.ofString "ABCDEFGHIJKLMNOPQRSTUVWXYZ")), Zf (Dt.int v_first), Zf (e0_list v_some_1), Zf (Dt.int v_many), none, none, none, none]) (fun v_many => .rt (.ol (List.map e1_tup (m_law_specs_8 v_script v_kind v_things v_names v_some_1 v_many))) none) (k_law_specs_8 v_script v_kind v_things v_names v_some_1) (EX.ev (ex_add ex_int (ex_mod (ex_fdiv (ex_call c_law_cell_at (fun _ => ⟨rfl, rfl, rfl, rfl, rfl⟩) (fun _ => hr.mono (by decide)) (fun _ => rfl) (ea_cons (xv 0 rfl) (ea_cons ex_int ea_nil)) rfl ⟨v_script, (2 : Int), h22, rfl, rfl⟩) ex_int ⟨by decide, by decide⟩) ex_int (by decide)))) h23 sc_law_specs.nd (fun _ => rfl) (fun v_many hk => ?_)
  obtain ⟨h20, h21⟩ := hk
  refine run_ifP (s1 := (m_law_specs_2 ([(itm v_things (0 : Int)), (itm v_things (-(1 : Int))), (itm v_names (0 : Int))]))) (s2 := (v_some_1, v_many)) (fun v_st : ((List Str) × Int) => [Zf (e2_scr v_script), Zf (Dt.int v_kind), Zf (e0_list v_things), Zf (e0_list v_names), Zf (Dt.str (Str.ofString "ABCDEFGHIJKLMNOPQRSTUVWXYZ")), Zf (Dt.int v_first), Zf (e0_list v_st.1), Zf (Dt.int v_st.2), none, none, none, none]) (fun v_st => .rt (.ol (List.map e1_tup (m_law_specs_7 v_script v_names v_st))) none) (k_law_specs_7 v_script v_names) (eb_cmp says_eqI (xv 1 rfl) ex_int) h21 (fun hb => ?_) (fun hb => ?_) (fun v_st hk => ?_)
  · have hk := h20 hb
    obtain ⟨h4, h5, h6⟩ := hk
    refine run_asgE (i := 6) [(itm v_things (0 : Int)), (itm v_things (-(1 : Int))), (itm v_names (0 : Int))] (fun v_some_2 => .fz (e0_list v_some_2)) (fun _ => _) (fun v_some_2 => [Zf (e2_scr v_script), Zf (Dt.int v_kind), Zf (e0_list v_things), Zf (e0_list v_names), Zf (Dt.str (Str.ofString "ABCDEFGHIJKLMNOPQRSTUVWXYZ")), Zf (Dt.int v_first), Zf (e0_list v_some_2), Zf (Dt.int v_many), none, none, none, none]) (fun v_some_2 => .nx ((fun v_st : ((List Str) × Int) => [Zf (e2_scr v_script), Zf (Dt.int v_kind), Zf (e0_list v_things), Zf (e0_list v_names), Zf (Dt.str (Str.ofString "ABCDEFGHIJKLMNOPQRSTUVWXYZ")), Zf (Dt.int v_first), Zf (e0_list v_st.1), Zf (Dt.int v_st.2), none, none, none, none]) (m_law_specs_2 v_some_2))) (fun _ => True) (EX.ev (EN.frz (en_lst (ea_cons (x_ix Dt.str (fun _ => rfl) (EX.esL (xv 2 rfl)) ex_int h4) (ea_cons (x_ix Dt.str (fun _ => rfl) (EX.esL (xv 2 rfl)) (ex_neg ex_int) h5) (ea_cons (x_ix Dt.str (fun _ => rfl) (EX.esL (xv 3 rfl)) ex_int h6) ea_nil))) (Nat.le_of_ble_eq_true rfl)) rfl)) trivial sc_law_specs.nd (fun _ => rfl) (fun v_some_2 _ => ?_)
    refine run_asgQ (i := 7) (Gk := [Zf (e2_scr v_script), Zf (Dt.int v_kind), Zf (e0_list v_things), Zf (e0_list v_names), Zf (Dt.str (Str.ofString "ABCDEFGHIJKLMNOPQRSTUVWXYZ")), Zf (Dt.int v_first), Zf (e0_list v_some_2), Zf (Dt.int (1 : Int)), none, none, none, none]) (EX.ev ex_int) sc_law_specs.nd rfl ?_
    exact run_end (.keep (.keep (.keep (.keep (.keep (.keep (.keep (.keep (.keep (.keep (.keep (.keep .nil))))))))))))
  · exact run_end (.keep (.keep (.keep (.keep (.keep (.keep (.keep (.keep (.keep (.keep (.keep (.keep .nil))))))))))))
  · obtain ⟨h16, h17, h18, h19⟩ := hk
    refine run_asgLc (i := 8) (v := (List.map (fun v_item_1 : Nat => (m_law_cell_at v_script (((3 : Int) + (v_item_1 : Int))))) (List.range (Int.toNat v_st.2)))) (fun z : (List Int) => List.map Dt.int z) (fun v_numbers => [Zf (e2_scr v_script), Zf (Dt.int v_kind), Zf (e0_list v_things), Zf (e0_list v_names), Zf (Dt.str (Str.ofString "ABCDEFGHIJKLMNOPQRSTUVWXYZ")), Zf (Dt.int v_first), Zf (e0_list v_st.1), Zf (Dt.int v_st.2), some (.ol (List.map Dt.int v_numbers)), none, none, none]) (fun v_numbers => .rt (.ol (List.map e1_tup (m_law_specs_6 v_script v_names v_st v_numbers))) none) (k_law_specs_6 v_script v_names v_st) (own := [("_law_k", 9)]) (fun i : Nat => Dt.int (i : Int)) (fun v_item_1 : Nat => [Zf (e2_scr v_script), Zf (Dt.int v_kind), Zf (e0_list v_things), Zf (e0_list v_names), Zf (Dt.str (Str.ofString "ABCDEFGHIJKLMNOPQRSTUVWXYZ")), Zf (Dt.int v_first), Zf (e0_list v_st.1), Zf (Dt.int v_st.2), none, Zf (Dt.int (v_item_1 : Int)), none, none]) (fun v_item_1 : Nat => true) (fun v_item_1 : Nat => (Dt.int (m_law_cell_at v_script (((3 : Int) + (v_item_1 : Int)))))) rfl sc_law_specs.nd (src_range1 rfl T.n_range (xv 7 rfl) h16.1 h16.2) h17 (blkOk_by (by decide +kernel : blkC ["_law_script", "_law_kind", "_law_things", "_law_names", "_law_signs", "_law_first", "_law_some", "_law_many", "_law_numbers", "_law_k", "_law_number", "_law_cell"] (defScope s_law_specs) _ [("_law_k", 9)] = true)) (by decide) (fun _ => (pg_name (i := 9) sc_law_specs.nd rfl (by first | exact Or.inl rfl | exact Or.inr rfl))) (fun _ => (bd_name (Nat.blt_eq.mp rfl))) ⟨tYes, fun _ => pts_nil, fun _ _ F H σ fps Q E q => q F H (Up.refl E.sub)⟩ (fun v_item_1 hm hp => (ex_call c_law_cell_at (fun _ => ⟨rfl, rfl, rfl, rfl, rfl⟩) (fun _ => hr.mono (by decide)) (fun _ => rfl) (ea_cons (xv 0 rfl) (ea_cons (ex_add ex_int (xv 9 rfl)) ea_nil)) rfl ⟨v_script, ((3 : Int) + (v_item_1 : Int)), (h18 v_item_1 hm), rfl, rfl⟩)) (lcM_enc Dt.int (fun v_item_1 : Nat => (m_law_cell_at v_script (((3 : Int) + (v_item_1 : Int))))) (List.range (Int.toNat v_st.2))).symm h19 (fun v_numbers hk => ?_) rfl rfl (Nat.blt_eq.mp rfl) rfl (sw_true rfl rfl rfl (by decide +kernel)) (fun _ => rfl)
    obtain ⟨h13, h14, h15⟩ := hk
    refine run_ifP (s1 := (m_law_specs_4 (List.map (fun v_item_2 : Int => (m_law_mix v_item_2 ((6 : Int)))) v_numbers))) (s2 := v_numbers) (fun v_st_1 : ((List Int)) => [Zf (e2_scr v_script), Zf (Dt.int v_kind), Zf (e0_list v_things), Zf (e0_list v_names), Zf (Dt.str (Str.ofString "ABCDEFGHIJKLMNOPQRSTUVWXYZ")), Zf (Dt.int v_first), Zf (e0_list v_st.1), Zf (Dt.int v_st.2), some (.ol (List.map Dt.int v_st_1)), none, none, none]) (fun v_st_1 => .rt (.ol (List.map e1_tup (m_law_specs_5 v_names v_st v_st_1))) none) (k_law_specs_5 v_names v_st) (eb_cmp says_eqI (ex_mod (ex_fdiv (ex_call c_law_cell_at (fun _ => ⟨rfl, rfl, rfl, rfl, rfl⟩) (fun _ => hr.mono (by decide)) (fun _ => rfl) (ea_cons (xv 0 rfl) (ea_cons ex_int ea_nil)) rfl ⟨v_script, (2 : Int), h13, rfl, rfl⟩) ex_int ⟨by decide, by decide⟩) ex_int (by decide)) ex_int) h15 (fun hb => ?_) (fun hb => ?_) (fun v_st_1 hk => ?_)
    · have hk := h14 hb
      refine run_freezeQ (i := 8) (π := []) (G' := [Zf (e2_scr v_script), Zf (Dt.int v_kind), Zf (e0_list v_things), Zf (e0_list v_names), Zf (Dt.str (Str.ofString "ABCDEFGHIJKLMNOPQRSTUVWXYZ")), Zf (Dt.int v_first), Zf (e0_list v_st.1), Zf (Dt.int v_st.2), Zf (e3_list v_numbers), none, none, none]) rfl rfl rfl ?_
      obtain ⟨h9, h10⟩ := hk
      refine run_asgLc (i := 8) (v := (List.map (fun v_item_2 : Int => (m_law_mix v_item_2 ((6 : Int)))) v_numbers)) (fun z : (List Int) => List.map Dt.int z) (fun v_numbers_1 => [Zf (e2_scr v_script), Zf (Dt.int v_kind), Zf (e0_list v_things), Zf (e0_list v_names), Zf (Dt.str (Str.ofString "ABCDEFGHIJKLMNOPQRSTUVWXYZ")), Zf (Dt.int v_first), Zf (e0_list v_st.1), Zf (Dt.int v_st.2), some (.ol (List.map Dt.int v_numbers_1)), none, none, none]) (fun v_numbers_1 => .nx ((fun v_st_1 : ((List Int)) => [Zf (e2_scr v_script), Zf (Dt.int v_kind), Zf (e0_list v_things), Zf (e0_list v_names), Zf (Dt.str (Str.ofString "ABCDEFGHIJKLMNOPQRSTUVWXYZ")), Zf (Dt.int v_first), Zf (e0_list v_st.1), Zf (Dt.int v_st.2), some (.ol (List.map Dt.int v_st_1)), none, none, none]) (m_law_specs_4 v_numbers_1))) (fun _ => True) (own := [("_law_cell", 11)]) Dt.int (fun v_item_2 : Int => [Zf (e2_scr v_script), Zf (Dt.int v_kind), Zf (e0_list v_things), Zf (e0_list v_names), Zf (Dt.str (Str.ofString "ABCDEFGHIJKLMNOPQRSTUVWXYZ")), Zf (Dt.int v_first), Zf (e0_list v_st.1), Zf (Dt.int v_st.2), Zf (e3_list v_numbers), none, none, Zf (Dt.int v_item_2)]) (fun v_item_2 : Int => true) (fun v_item_2 : Int => (Dt.int (m_law_mix v_item_2 ((6 : Int))))) rfl sc_law_specs.nd (src_list rfl (xv 8 rfl)) h9 (blkOk_by (by decide +kernel : blkC ["_law_script", "_law_kind", "_law_things", "_law_names", "_law_signs", "_law_first", "_law_some", "_law_many", "_law_numbers", "_law_k", "_law_number", "_law_cell"] (defScope s_law_specs) _ [("_law_cell", 11)] = true)) (by decide) (fun _ => (pg_name (i := 11) sc_law_specs.nd rfl (by first | exact Or.inl rfl | exact Or.inr rfl))) (fun _ => (bd_name (Nat.blt_eq.mp rfl))) ⟨tYes, fun _ => pts_nil, fun _ _ F H σ fps Q E q => q F H (Up.refl E.sub)⟩ (fun v_item_2 hm hp => (ex_call c_law_mix (fun _ => ⟨rfl, rfl, rfl, rfl, rfl⟩) (fun _ => hr.mono (by decide)) (fun _ => rfl) (ea_cons (xv 11 rfl) (ea_cons ex_int ea_nil)) rfl ⟨v_item_2, (6 : Int), (h10 v_item_2 hm), rfl, rfl⟩)) (lcM_enc Dt.int (fun v_item_2 : Int => (m_law_mix v_item_2 ((6 : Int)))) v_numbers).symm trivial (fun v_numbers_1 _ => ?_) rfl rfl (Nat.blt_eq.mp rfl) rfl (sw_true rfl rfl rfl (by decide +kernel)) (fun _ => rfl)
      exact run_end (.keep (.keep (.keep (.keep (.keep (.keep (.keep (.keep (.keep (.keep (.keep (.keep .nil))))))))))))
    · exact run_end (.keep (.keep (.keep (.keep (.keep (.keep (.keep (.keep (.keep (.keep (.keep (.keep .nil))))))))))))
    · refine run_freezeQ (i := 8) (π := []) (G' := [Zf (e2_scr v_script), Zf (Dt.int v_kind), Zf (e0_list v_things), Zf (e0_list v_names), Zf (Dt.str (Str.ofString "ABCDEFGHIJKLMNOPQRSTUVWXYZ")), Zf (Dt.int v_first), Zf (e0_list v_st.1), Zf (Dt.int v_st.2), Zf (e3_list v_st_1), none, none, none]) rfl rfl rfl ?_
      obtain ⟨h11, h12⟩ := hk
      exact run_retN (EN.isL (x_lc (own := [("_law_number", 10)]) Dt.int (fun v_item_4 : Int => [Zf (e2_scr v_script), Zf (Dt.int v_kind), Zf (e0_list v_things), Zf (e0_list v_names), Zf (Dt.str (Str.ofString "ABCDEFGHIJKLMNOPQRSTUVWXYZ")), Zf (Dt.int v_first), Zf (e0_list v_st.1), Zf (Dt.int v_st.2), Zf (e3_list v_st_1), none, Zf (Dt.int v_item_4), none]) (fun v_item_4 : Int => true) (fun v_item_4 : Int => (e1_tup (m_law_statement v_item_4 v_names v_st.1))) rfl sc_law_specs.nd (src_list rfl (xv 8 rfl)) h11 (blkOk_by (by decide +kernel : blkC ["_law_script", "_law_kind", "_law_things", "_law_names", "_law_signs", "_law_first", "_law_some", "_law_many", "_law_numbers", "_law_k", "_law_number", "_law_cell"] (defScope s_law_specs) _ [("_law_number", 10)] = true)) (by decide) (fun _ => (pg_name (i := 10) sc_law_specs.nd rfl (by first | exact Or.inl rfl | exact Or.inr rfl))) (fun _ => (bd_name (Nat.blt_eq.mp rfl))) ⟨tYes, fun _ => pts_nil, fun _ _ F H σ fps Q E q => q F H (Up.refl E.sub)⟩ (fun v_item_4 hm hp => (ex_call c_law_statement (fun _ => ⟨rfl, rfl, rfl, rfl, rfl⟩) (fun _ => hr.mono (by decide)) (fun _ => rfl) (ea_cons (xv 10 rfl) (ea_cons (xv 3 rfl) (ea_cons (xv 6 rfl) ea_nil))) rfl ⟨v_item_4, v_names, v_st.1, (h12 v_item_4 hm), rfl, rfl⟩))) (lcM_enc e1_tup (fun v_item_4 : Int => (m_law_statement v_item_4 v_names v_st.1)) v_st_1))
theorem ok_law_specs (T : Txt K mg) (c_law_cell_at : Callee P w K mg base "_law_cell_at" 1 2 r_law_cell_at) (c_law_mix : Callee P w K mg base "_law_mix" 1 2 r_law_mix) (c_law_statement : Callee P w K mg base "_law_statement" 1 3 r_law_statement) {f : Addr} {fd : FuncData} (F : FunD K "_law_specs" "_law_specs" (defArgs s_law_specs) (defBody s_law_specs) (defScope s_law_specs) [] [] f fd) : FnOk P w K mg base (L2.CX P w) 2 f fd ["_law_script", "_law_kind", "_law_things", "_law_names"] (spR K 4 r_law_specs) :=
  fnOk_mk F sc_law_specs (fun cdv A outer s H E ds a hr hR hn => by
    obtain ⟨v_script, v_kind, v_things, v_names, hk, rfl, rfl⟩ := hR
    exact ⟨_, .rt _, run_law_specs T c_law_cell_at c_law_mix c_law_statement hr v_script v_kind v_things v_names hk⟩)
theorem mk_law_specs (T : Txt K mg) (c_law_cell_at : Callee P w K mg base "_law_cell_at" 1 2 r_law_cell_at) (c_law_mix : Callee P w K mg base "_law_mix" 1 2 r_law_mix) (c_law_statement : Callee P w K mg base "_law_statement" 1 3 r_law_statement) {f : Addr} {fd : FuncData} (F : FunD K "_law_specs" "_law_specs" (defArgs s_law_specs) (defBody s_law_specs) (defScope s_law_specs) [] [] f fd) {x : Str} (gf : mg x = some (.ref f)) : Callee P w K mg base x 2 4 r_law_specs :=
  ⟨f, fd, ["_law_script", "_law_kind", "_law_things", "_law_names"], ok_law_specs T c_law_cell_at c_law_mix c_law_statement F, gf, F.kp, FunD.bindsN F fun _ _ _ _ _ _ us hl => match us, hl with | [_, _, _, _], _ => rfl⟩
end
/-! law_text -/
def m_law_text_1 (v_given : (List (Str × Str))) (v_parts : (Str × Str × (List Str))) : Str := (cond (v_parts.2.2 == []) (v_parts.1 ++ v_parts.2.1) ((((v_parts.1 ++ v_parts.2.1) ++ (Str.ofString "(")) ++ (Txt.join (Str.ofString ",") (List.map (fun v_item : Str => (Option.getD (gets v_given v_item) v_item)) v_parts.2.2))) ++ (Str.ofString ")")))
def k_law_text_1 (v_given : (List (Str × Str))) (v_parts : (Str × Str × (List Str))) : Prop := (((v_parts.2.2 == []) = true → ((v_parts.1).length + (v_parts.2.1).length ≤ bigS)) ∧ ((v_parts.2.2 == []) = false → (((v_parts.1).length + (v_parts.2.1).length ≤ bigS) ∧ (((v_parts.1 ++ v_parts.2.1)).length + ((Str.ofString "(")).length ≤ bigS) ∧ ((v_parts.2.2).length ≤ big) ∧ (joinOk (Str.ofString ",") (List.map (fun v_item : Str => (Option.getD (gets v_given v_item) v_item)) v_parts.2.2)) ∧ ((((v_parts.1 ++ v_parts.2.1) ++ (Str.ofString "("))).length + ((Txt.join (Str.ofString ",") (List.map (fun v_item : Str => (Option.getD (gets v_given v_item) v_item)) v_parts.2.2))).length ≤ bigS) ∧ (((((v_parts.1 ++ v_parts.2.1) ++ (Str.ofString "(")) ++ (Txt.join (Str.ofString ",") (List.map (fun v_item : Str => (Option.getD (gets v_given v_item) v_item)) v_parts.2.2)))).length + ((Str.ofString ")")).length ≤ bigS))))
def m_law_text (v_spec : (Str × Str × (List Str))) (v_given : (List (Str × Str))) : Str := (m_law_text_1 v_given v_spec)
def k_law_text (v_spec : (Str × Str × (List Str))) (v_given : (List (Str × Str))) : Prop := (k_law_text_1 v_given v_spec)
abbrev s_law_text : Stmt := top 31
theorem sc_law_text : FnScope ["_law_spec", "_law_given", "_law_side", "_law_name", "_law_places", "_law_place"] ["_law_spec", "_law_given"] (defScope s_law_text) := ⟨rfl, rfl, rfl, by decide +kernel, rfl, by decide +kernel, by decide +kernel⟩
def r_law_text : List Dt → Sum Cell Xc → Prop := fun ds a => ∃ (v_spec : (Str × Str × (List Str))) (v_given : (List (Str × Str))), k_law_text v_spec v_given ∧ ds = [(e1_tup v_spec), (e4_dict v_given)] ∧ a = .inl (.fz (Dt.str (m_law_text v_spec v_given)))
section
variable {P : Program} {w : World} {K : PySem.W.Frag} {mg : Str → Option Value} {base : Heap}
theorem run_law_text (T : Txt K mg)  {f : Addr} {cdv : Value} {A : Around} {outer : List PySem.Env} {s : Shared} {H : Hp} {E : XK} (hr : Room 0 (A.deeper (PyProof.Rows.envOfC "_law_text" (defScope s_law_text) s.heap.objs.size f cdv))) (v_spec : (Str × Str × (List Str))) (v_given : (List (Str × Str))) (hk : k_law_text v_spec v_given) :
    Run (cxOf (L2.CX P w) P w K mg base ["_law_spec", "_law_given", "_law_side", "_law_name", "_law_places", "_law_place"] "_law_text" (defScope s_law_text) f cdv A outer s H E) K (wE E) sv0 (defBody s_law_text) (start0 ["_law_spec", "_law_given", "_law_side", "_law_name", "_law_places", "_law_place"] [(e1_tup v_spec), (e4_dict v_given)]) (.rt (.fz (Dt.str (m_law_text v_spec v_given))) none) := by
  have h10 := hk
  refine run_asgTP (js := [2, 3, 4]) (v := v_spec) e1_tup (fun v_parts => .rt (.fz (Dt.str (m_law_text_1 v_given v_parts))) none) (k_law_text_1 v_given) (fun v_parts => [Zf (e1_tup v_spec), Zf (e4_dict v_given), Zf (Dt.str v_parts.1), Zf (Dt.str v_parts.2.1), Zf (e0_list v_parts.2.2), none]) (xv 0 rfl) h10 (pg_tup rfl (pgs_cons (pg_name (i := 2) sc_law_text.nd rfl (by first | exact Or.inl rfl | exact Or.inr rfl)) (pgs_cons (pg_name (i := 3) sc_law_text.nd rfl (by first | exact Or.inl rfl | exact Or.inr rfl)) (pgs_cons (pg_name (i := 4) sc_law_text.nd rfl (by first | exact Or.inl rfl | exact Or.inr rfl)) pgs_nil)))) (fun _ => bd_tup (bdl_cons (bd_name (Nat.blt_eq.mp rfl)) (bdl_cons (bd_name (Nat.blt_eq.mp rfl)) (bdl_cons (bd_name (Nat.blt_eq.mp rfl)) bdl_nil))) rfl) rfl (fun v_parts hk => ?_)
  obtain ⟨h8, h9⟩ := hk
  refine run_gd (fun x : Str => .rt (.fz (Dt.str x)) none) (v_parts.1 ++ v_parts.2.1) ((((v_parts.1 ++ v_parts.2.1) ++ (Str.ofString "(")) ++ (Txt.join (Str.ofString ",") (List.map (fun v_item : Str => (Option.getD (gets v_given v_item) v_item)) v_parts.2.2))) ++ (Str.ofString ")")) (fun _ h => nomatch h) (eb_cmp (says_eqD (fun _ => units_of hr) (fun _ => rfl) (EqT.d (f := e0_list) (eqt_lst eqt_str) (by decide) v_parts.2.2 [])) (xv 4 rfl) (EN.frz (en_lst ea_nil (Nat.le_of_ble_eq_true rfl)) rfl)) (fun hb => ?_) (fun hb => ?_)
  · have hk := h8 hb
    have h1 := hk
    exact run_ret (ex_cat (xv 2 rfl) (xv 3 rfl) h1)
  · have hk := h9 hb
    obtain ⟨h2, h3, h4, h5, h6, h7⟩ := hk
    exact run_ret (ex_cat (ex_cat (ex_cat (ex_cat (xv 2 rfl) (xv 3 rfl) h2) (ex_str (h := by decide +kernel)) h3) (x_join (fun _ => rfl) (ex_str (h := by decide +kernel)) (EN.es (EN.isL (x_lc (own := [("_law_place", 5)]) Dt.str (fun v_item : Str => [Zf (e1_tup v_spec), Zf (e4_dict v_given), Zf (Dt.str v_parts.1), Zf (Dt.str v_parts.2.1), Zf (e0_list v_parts.2.2), Zf (Dt.str v_item)]) (fun v_item : Str => true) (fun v_item : Str => (Dt.str (Option.getD (gets v_given v_item) v_item))) rfl sc_law_text.nd (src_list rfl (xv 4 rfl)) h4 (blkOk_by (by decide +kernel : blkC ["_law_spec", "_law_given", "_law_side", "_law_name", "_law_places", "_law_place"] (defScope s_law_text) _ [("_law_place", 5)] = true)) (by decide) (fun _ => (pg_name (i := 5) sc_law_text.nd rfl (by first | exact Or.inl rfl | exact Or.inr rfl))) (fun _ => (bd_name (Nat.blt_eq.mp rfl))) ⟨tYes, fun _ => pts_nil, fun _ _ F H σ fps Q E q => q F H (Up.refl E.sub)⟩ (fun v_item hm hp => (x_get2 (g := Sum.inr) Dt.str (fun _ _ h => Sum.inr.inj h) (keyS _) (fun _ => units_of hr) (EX.ed (xv 1 rfl)) (xv 5 rfl) (xv 5 rfl)))) (lcM_enc Dt.str (fun v_item : Str => (Option.getD (gets v_given v_item) v_item)) v_parts.2.2))) h5) h6) (ex_str (h := by decide +kernel)) h7)
theorem ok_law_text (T : Txt K mg)  {f : Addr} {fd : FuncData} (F : FunD K "_law_text" "_law_text" (defArgs s_law_text) (defBody s_law_text) (defScope s_law_text) [] [] f fd) : FnOk P w K mg base (L2.CX P w) 1 f fd ["_law_spec", "_law_given"] (spR K 2 r_law_text) :=
  fnOk_mk F sc_law_text (fun cdv A outer s H E ds a hr hR hn => by
    obtain ⟨v_spec, v_given, hk, rfl, rfl⟩ := hR
    exact ⟨_, .rt _, run_law_text T  hr v_spec v_given hk⟩)
theorem mk_law_text (T : Txt K mg)  {f : Addr} {fd : FuncData} (F : FunD K "_law_text" "_law_text" (defArgs s_law_text) (defBody s_law_text) (defScope s_law_text) [] [] f fd) {x : Str} (gf : mg x = some (.ref f)) : Callee P w K mg base x 1 2 r_law_text :=
  ⟨f, fd, ["_law_spec", "_law_given"], ok_law_text T  F, gf, F.kp, FunD.bindsN F fun _ _ _ _ _ _ us hl => match us, hl with | [_, _], _ => rfl⟩
end
/-! Rule___init___l -/
def m_Rule___init___l_1 (v_label_1 : Str) (v_head_1 : Str) (v_body_1 : (List Str)) : (Str × Str × (List Str)) := (v_label_1, v_head_1, v_body_1)
def m_Rule___init___l_2 (v_body : (List Str)) (v_label_1 : Str) (v_head_1 : Str) : (Str × Str × (List Str)) := (m_Rule___init___l_1 v_label_1 v_head_1 v_body)
def m_Rule___init___l_3 (v_head : Str) (v_body : (List Str)) (v_label_1 : Str) : (Str × Str × (List Str)) := (m_Rule___init___l_2 v_body v_label_1 v_head)
def mi_Rule___init___l (v_label : Str) (v_head : Str) (v_body : (List Str)) : (Str × Str × (List Str)) := (m_Rule___init___l_3 v_head v_body v_label)
abbrev s_Rule___init___l : Stmt := sub (top 18) 0
theorem sc_Rule___init___l : FnScope ["self", "label", "head", "body"] ["self", "label", "head", "body"] (defScope s_Rule___init___l) := ⟨rfl, rfl, rfl, by decide +kernel, rfl, by decide +kernel, by decide +kernel⟩
def r_Rule___init___l : List Cell → Sum Cell Xc → List Cell → Prop := fun cs a outs => ∃ (v_k : Nat) (v_label : Str) (v_head : Str) (v_body : (List Str)), cs = [.ob (cn_Rule v_k) [], .fz (Dt.str v_label), .fz (Dt.str v_head), .fz (e0_list v_body)] ∧ a = .inl (.fz .non) ∧ outs = [.ob (cn_Rule v_k) [("label", .fz (Dt.str (mi_Rule___init___l v_label v_head v_body).1)), ("head", .fz (Dt.str (mi_Rule___init___l v_label v_head v_body).2.1)), ("body", .fz (e6_vtup (mi_Rule___init___l v_label v_head v_body).2.2))], .fz (Dt.str v_label), .fz (Dt.str v_head), .fz (e0_list v_body)]
section
variable {P : Program} {w : World} {K : PySem.W.Frag} {mg : Str → Option Value} {base : Heap}
theorem run_Rule___init___l (T : Txt K mg)  {f : Addr} {cdv : Value} {A : Around} {outer : List PySem.Env} {s : Shared} {H : Hp} {E : XK} (hr : Room 0 (A.deeper (PyProof.Rows.envOfC "Rule.__init__" (defScope s_Rule___init___l) s.heap.objs.size f cdv))) (v_k : Nat) (v_label : Str) (v_head : Str) (v_body : (List Str)) (vl : Nat → V) :
    Run (cxOf (L2.CX P w) P w K mg base ["self", "label", "head", "body"] "Rule.__init__" (defScope s_Rule___init___l) f cdv A outer s H E) K (wE E) ⟨[0], vl⟩ (defBody s_Rule___init___l) (startC ["self", "label", "head", "body"] [.ob (cn_Rule v_k) [], .fz (Dt.str v_label), .fz (Dt.str v_head), .fz (e0_list v_body)]) (.nx [some (.ob (cn_Rule v_k) [("label", .fz (Dt.str (mi_Rule___init___l v_label v_head v_body).1)), ("head", .fz (Dt.str (mi_Rule___init___l v_label v_head v_body).2.1)), ("body", .fz (e6_vtup (mi_Rule___init___l v_label v_head v_body).2.2))]), none, none, none]) := by
  refine run_setF (i := 0) (π := []) (fun _ => []) v_label (fun v_label_1 => .fz (Dt.str v_label_1)) (fun _ => _) (fun v_label_1 => [some (.ob (cn_Rule v_k) [("label", .fz (Dt.str v_label_1))]), Zf (Dt.str v_label), Zf (Dt.str v_head), Zf (e0_list v_body)]) (fun v_label_1 => .nx [some (.ob (cn_Rule v_k) [("label", .fz (Dt.str (m_Rule___init___l_3 v_head v_body v_label_1).1)), ("head", .fz (Dt.str (m_Rule___init___l_3 v_head v_body v_label_1).2.1)), ("body", .fz (e6_vtup (m_Rule___init___l_3 v_head v_body v_label_1).2.2))]), none, none, none]) (fun _ => True) rfl (T.cl_Rule v_k) (T.na_Rule_label v_k) (EX.ev (xv 1 rfl)) trivial (pp 0 rfl) rfl (fun _ => rfl) rfl (fun v_label_1 _ => ?_)
  refine run_setF (i := 0) (π := []) (fun _ => [("label", .fz (Dt.str v_label_1))]) v_head (fun v_head_1 => .fz (Dt.str v_head_1)) (fun _ => _) (fun v_head_1 => [some (.ob (cn_Rule v_k) [("label", .fz (Dt.str v_label_1)), ("head", .fz (Dt.str v_head_1))]), Zf (Dt.str v_label), Zf (Dt.str v_head), Zf (e0_list v_body)]) (fun v_head_1 => .nx [some (.ob (cn_Rule v_k) [("label", .fz (Dt.str (m_Rule___init___l_2 v_body v_label_1 v_head_1).1)), ("head", .fz (Dt.str (m_Rule___init___l_2 v_body v_label_1 v_head_1).2.1)), ("body", .fz (e6_vtup (m_Rule___init___l_2 v_body v_label_1 v_head_1).2.2))]), none, none, none]) (fun _ => True) rfl (T.cl_Rule v_k) (T.na_Rule_head v_k) (EX.ev (xv 2 rfl)) trivial (pp 0 rfl) rfl (fun _ => rfl) rfl (fun v_head_1 _ => ?_)
  refine run_setF (i := 0) (π := []) (fun _ => [("label", .fz (Dt.str v_label_1)), ("head", .fz (Dt.str v_head_1))]) v_body (fun v_body_1 => .fz (e6_vtup v_body_1)) (fun _ => _) (fun v_body_1 => [some (.ob (cn_Rule v_k) [("label", .fz (Dt.str v_label_1)), ("head", .fz (Dt.str v_head_1)), ("body", .fz (e6_vtup v_body_1))]), Zf (Dt.str v_label), Zf (Dt.str v_head), Zf (e0_list v_body)]) (fun v_body_1 => .nx [some (.ob (cn_Rule v_k) [("label", .fz (Dt.str (m_Rule___init___l_1 v_label_1 v_head_1 v_body_1).1)), ("head", .fz (Dt.str (m_Rule___init___l_1 v_label_1 v_head_1 v_body_1).2.1)), ("body", .fz (e6_vtup (m_Rule___init___l_1 v_label_1 v_head_1 v_body_1).2.2))]), none, none, none]) (fun _ => True) rfl (T.cl_Rule v_k) (T.na_Rule_body v_k) (EX.ev (ex_tupL (fun _ => rfl) (EX.esL (xv 3 rfl)) (fun _ => rfl) (fun _ => T.n_tuple))) trivial (pp 0 rfl) rfl (fun _ => rfl) rfl (fun v_body_1 _ => ?_)
  exact run_end (.keep (.drop (.drop (.drop .nil))))
theorem ok_Rule___init___l (T : Txt K mg)  {f : Addr} {fd : FuncData} (F : FunD K "__init__" "Rule.__init__" (defArgs s_Rule___init___l) (defBody s_Rule___init___l) (defScope s_Rule___init___l) [] [] f fd) : FnOk P w K mg base (L2.CX P w) 1 f fd ["self", "label", "head", "body"] (spB K 4 r_Rule___init___l) :=
  fnOk_mkB F sc_Rule___init___l (fun cdv A outer s H E cs a outs hr hR hn => by
    obtain ⟨v_k, v_label, v_head, v_body, rfl, rfl, rfl⟩ := hR
    exact ⟨_, _, .nx _, rfl, rfl, fun vl => run_Rule___init___l T  hr v_k v_label v_head v_body vl⟩)
theorem mk_Rule___init___l (T : Txt K mg)  {C : Str} {fd : FuncData} (F : FunD K "__init__" "Rule.__init__" (defArgs s_Rule___init___l) (defBody s_Rule___init___l) (defScope s_Rule___init___l) [] [] (He.ma K (He.ga K C) "__init__") fd) : CalleeBI P w K mg base C 1 4 r_Rule___init___l :=
  ⟨fd, ["self", "label", "head", "body"], ok_Rule___init___l T  F, FunD.bindsN F fun _ _ _ _ _ _ us hl => match us, hl with | [_, _, _, _], _ => rfl⟩
end
/-! Rule___init___t -/
def m_Rule___init___t_1 (v_label_1 : Str) (v_head_1 : Str) (v_body_1 : (List Str)) : (Str × Str × (List Str)) := (v_label_1, v_head_1, v_body_1)
def m_Rule___init___t_2 (v_body : (List Str)) (v_label_1 : Str) (v_head_1 : Str) : (Str × Str × (List Str)) := (m_Rule___init___t_1 v_label_1 v_head_1 v_body)
def m_Rule___init___t_3 (v_head : Str) (v_body : (List Str)) (v_label_1 : Str) : (Str × Str × (List Str)) := (m_Rule___init___t_2 v_body v_label_1 v_head)
def mi_Rule___init___t (v_label : Str) (v_head : Str) (v_body : (List Str)) : (Str × Str × (List Str)) := (m_Rule___init___t_3 v_head v_body v_label)
abbrev s_Rule___init___t : Stmt := sub (top 18) 0
theorem sc_Rule___init___t : FnScope ["self", "label", "head", "body"] ["self", "label", "head", "body"] (defScope s_Rule___init___t) := ⟨rfl, rfl, rfl, by decide +kernel, rfl, by decide +kernel, by decide +kernel⟩
def r_Rule___init___t : List Cell → Sum Cell Xc → List Cell → Prop := fun cs a outs => ∃ (v_k : Nat) (v_label : Str) (v_head : Str) (v_body : (List Str)), cs = [.ob (cn_Rule v_k) [], .fz (Dt.str v_label), .fz (Dt.str v_head), .fz (e6_vtup v_body)] ∧ a = .inl (.fz .non) ∧ outs = [.ob (cn_Rule v_k) [("label", .fz (Dt.str (mi_Rule___init___t v_label v_head v_body).1)), ("head", .fz (Dt.str (mi_Rule___init___t v_label v_head v_body).2.1)), ("body", .fz (e6_vtup (mi_Rule___init___t v_label v_head v_body).2.2))], .fz (Dt.str v_label), .fz (Dt.str v_head), .fz (e6_vtup v_body)]
section
variable {P : Program} {w : World} {K : PySem.W.Frag} {mg : Str → Option Value} {base : Heap}
theorem run_Rule___init___t (T : Txt K mg)  {f : Addr} {cdv : Value} {A : Around} {outer : List PySem.Env} {s : Shared} {H : Hp} {E : XK} (hr : Room 0 (A.deeper (PyProof.Rows.envOfC "Rule.__init__" (defScope s_Rule___init___t) s.heap.objs.size f cdv))) (v_k : Nat) (v_label : Str) (v_head : Str) (v_body : (List Str)) (vl : Nat → V) :
    Run (cxOf (L2.CX P w) P w K mg base ["self", "label", "head", "body"] "Rule.__init__" (defScope s_Rule___init___t) f cdv A outer s H E) K (wE E) ⟨[0], vl⟩ (defBody s_Rule___init___t) (startC ["self", "label", "head", "body"] [.ob (cn_Rule v_k) [], .fz (Dt.str v_label), .fz (Dt.str v_head), .fz (e6_vtup v_body)]) (.nx [some (.ob (cn_Rule v_k) [("label", .fz (Dt.str (mi_Rule___init___t v_label v_head v_body).1)), ("head", .fz (Dt.str (mi_Rule___init___t v_label v_head v_body).2.1)), ("body", .fz (e6_vtup (mi_Rule___init___t v_label v_head v_body).2.2))]), none, none, none]) := by
  refine run_setF (i := 0) (π := []) (fun _ => []) v_label (fun v_label_1 => .fz (Dt.str v_label_1)) (fun _ => _) (fun v_label_1 => [some (.ob (cn_Rule v_k) [("label", .fz (Dt.str v_label_1))]), Zf (Dt.str v_label), Zf (Dt.str v_head), Zf (e6_vtup v_body)]) (fun v_label_1 => .nx [some (.ob (cn_Rule v_k) [("label", .fz (Dt.str (m_Rule___init___t_3 v_head v_body v_label_1).1)), ("head", .fz (Dt.str (m_Rule___init___t_3 v_head v_body v_label_1).2.1)), ("body", .fz (e6_vtup (m_Rule___init___t_3 v_head v_body v_label_1).2.2))]), none, none, none]) (fun _ => True) rfl (T.cl_Rule v_k) (T.na_Rule_label v_k) (EX.ev (xv 1 rfl)) trivial (pp 0 rfl) rfl (fun _ => rfl) rfl (fun v_label_1 _ => ?_)
  refine run_setF (i := 0) (π := []) (fun _ => [("label", .fz (Dt.str v_label_1))]) v_head (fun v_head_1 => .fz (Dt.str v_head_1)) (fun _ => _) (fun v_head_1 => [some (.ob (cn_Rule v_k) [("label", .fz (Dt.str v_label_1)), ("head", .fz (Dt.str v_head_1))]), Zf (Dt.str v_label), Zf (Dt.str v_head), Zf (e6_vtup v_body)]) (fun v_head_1 => .nx [some (.ob (cn_Rule v_k) [("label", .fz (Dt.str (m_Rule___init___t_2 v_body v_label_1 v_head_1).1)), ("head", .fz (Dt.str (m_Rule___init___t_2 v_body v_label_1 v_head_1).2.1)), ("body", .fz (e6_vtup (m_Rule___init___t_2 v_body v_label_1 v_head_1).2.2))]), none, none, none]) (fun _ => True) rfl (T.cl_Rule v_k) (T.na_Rule_head v_k) (EX.ev (xv 2 rfl)) trivial (pp 0 rfl) rfl (fun _ => rfl) rfl (fun v_head_1 _ => ?_)
  refine run_setF (i := 0) (π := []) (fun _ => [("label", .fz (Dt.str v_label_1)), ("head", .fz (Dt.str v_head_1))]) v_body (fun v_body_1 => .fz (e6_vtup v_body_1)) (fun _ => _) (fun v_body_1 => [some (.ob (cn_Rule v_k) [("label", .fz (Dt.str v_label_1)), ("head", .fz (Dt.str v_head_1)), ("body", .fz (e6_vtup v_body_1))]), Zf (Dt.str v_label), Zf (Dt.str v_head), Zf (e6_vtup v_body)]) (fun v_body_1 => .nx [some (.ob (cn_Rule v_k) [("label", .fz (Dt.str (m_Rule___init___t_1 v_label_1 v_head_1 v_body_1).1)), ("head", .fz (Dt.str (m_Rule___init___t_1 v_label_1 v_head_1 v_body_1).2.1)), ("body", .fz (e6_vtup (m_Rule___init___t_1 v_label_1 v_head_1 v_body_1).2.2))]), none, none, none]) (fun _ => True) rfl (T.cl_Rule v_k) (T.na_Rule_body v_k) (EX.ev (ex_tupT (fun _ => rfl) (xv 3 rfl) (fun _ => rfl) (fun _ => T.n_tuple))) trivial (pp 0 rfl) rfl (fun _ => rfl) rfl (fun v_body_1 _ => ?_)
  exact run_end (.keep (.drop (.drop (.drop .nil))))
theorem ok_Rule___init___t (T : Txt K mg)  {f : Addr} {fd : FuncData} (F : FunD K "__init__" "Rule.__init__" (defArgs s_Rule___init___t) (defBody s_Rule___init___t) (defScope s_Rule___init___t) [] [] f fd) : FnOk P w K mg base (L2.CX P w) 1 f fd ["self", "label", "head", "body"] (spB K 4 r_Rule___init___t) :=
  fnOk_mkB F sc_Rule___init___t (fun cdv A outer s H E cs a outs hr hR hn => by
    obtain ⟨v_k, v_label, v_head, v_body, rfl, rfl, rfl⟩ := hR
    exact ⟨_, _, .nx _, rfl, rfl, fun vl => run_Rule___init___t T  hr v_k v_label v_head v_body vl⟩)
theorem mk_Rule___init___t (T : Txt K mg)  {C : Str} {fd : FuncData} (F : FunD K "__init__" "Rule.__init__" (defArgs s_Rule___init___t) (defBody s_Rule___init___t) (defScope s_Rule___init___t) [] [] (He.ma K (He.ga K C) "__init__") fd) : CalleeBI P w K mg base C 1 4 r_Rule___init___t :=
  ⟨fd, ["self", "label", "head", "body"], ok_Rule___init___t T  F, FunD.bindsN F fun _ _ _ _ _ _ us hl => match us, hl with | [_, _, _, _], _ => rfl⟩
end
/-! Fact___init__ -/
def m_Fact___init___1  (v_made : (Str × Str × (List Str))) : (Str × Str × (List Str)) := (v_made.1, v_made.2.1, v_made.2.2)
def mi_Fact___init__ (v_head : Str) : (Str × Str × (List Str)) := (m_Fact___init___1 (mi_Rule___init___t (Str.ofString "") v_head []))
abbrev s_Fact___init__ : Stmt := sub (top 19) 0
theorem sc_Fact___init__ : FnScope ["self", "head"] ["self", "head"] (defScope s_Fact___init__) := ⟨rfl, rfl, rfl, by decide +kernel, rfl, by decide +kernel, by decide +kernel⟩
def r_Fact___init__ : List Cell → Sum Cell Xc → List Cell → Prop := fun cs a outs => ∃ (v_k : Nat) (v_head : Str), cs = [.ob (cn_Rule v_k) [], .fz (Dt.str v_head)] ∧ a = .inl (.fz .non) ∧ outs = [.ob (cn_Rule v_k) [("label", .fz (Dt.str (mi_Fact___init__ v_head).1)), ("head", .fz (Dt.str (mi_Fact___init__ v_head).2.1)), ("body", .fz (e6_vtup (mi_Fact___init__ v_head).2.2))], .fz (Dt.str v_head)]
section
variable {P : Program} {w : World} {K : PySem.W.Frag} {mg : Str → Option Value} {base : Heap}
theorem run_Fact___init__ (T : Txt K mg) (c_i_Rule_Rule___init___t : CalleeBI P w K mg base "Rule" 1 4 r_Rule___init___t) {f : Addr} {cdv : Value} {A : Around} {outer : List PySem.Env} {s : Shared} {H : Hp} {E : XK} (hr : Room 2 (A.deeper (PyProof.Rows.envOfC "Fact.__init__" (defScope s_Fact___init__) s.heap.objs.size f cdv))) (v_k : Nat) (v_head : Str) (vl : Nat → V) :
    Run (cxOf (L2.CX P w) P w K mg base ["self", "head"] "Fact.__init__" (defScope s_Fact___init__) f cdv A outer s H E) K (wE E) ⟨[0], vl⟩ (defBody s_Fact___init__) (startC ["self", "head"] [.ob (cn_Rule v_k) [], .fz (Dt.str v_head)]) (.nx [some (.ob (cn_Rule v_k) [("label", .fz (Dt.str (mi_Fact___init__ v_head).1)), ("head", .fz (Dt.str (mi_Fact___init__ v_head).2.1)), ("body", .fz (e6_vtup (mi_Fact___init__ v_head).2.2))]), none]) := by
  refine run_dropE (mi_Rule___init___t (Str.ofString "") v_head []) (fun _ => .fz .non) (fun v_made => [some (.ob (cn_Rule v_k) [("label", .fz (Dt.str v_made.1)), ("head", .fz (Dt.str v_made.2.1)), ("body", .fz (e6_vtup v_made.2.2))]), Zf (Dt.str v_head)]) (fun v_made => .nx [some (.ob (cn_Rule v_k) [("label", .fz (Dt.str (m_Fact___init___1 v_made).1)), ("head", .fz (Dt.str (m_Fact___init___1 v_made).2.1)), ("body", .fz (e6_vtup (m_Fact___init___1 v_made).2.2))]), none]) (fun _ => True) (ev_clsm T.su_Rule c_i_Rule_Rule___init___t.ex T.gc_Rule (fun _ => ⟨rfl, rfl, rfl, rfl, rfl⟩) (hr.mono (by decide)) rfl (eab_ow (pp 0 rfl) (eab_fz (ex_str (h := by decide +kernel)) (eab_fz (xv 1 rfl) (eab_fz (ex_tup ea_nil (Nat.le_of_ble_eq_true rfl)) eab_nil)))) ⟨rfl, rfl, trivial⟩ rfl ⟨v_k, (Str.ofString ""), v_head, [], rfl, rfl, rfl⟩ rfl) trivial (fun v_made _ => ?_)
  exact run_end (.keep (.drop .nil))
theorem ok_Fact___init__ (T : Txt K mg) (c_i_Rule_Rule___init___t : CalleeBI P w K mg base "Rule" 1 4 r_Rule___init___t) {f : Addr} {fd : FuncData} (F : FunD K "__init__" "Fact.__init__" (defArgs s_Fact___init__) (defBody s_Fact___init__) (defScope s_Fact___init__) [] [] f fd) : FnOk P w K mg base (L2.CX P w) 3 f fd ["self", "head"] (spB K 2 r_Fact___init__) :=
  fnOk_mkB F sc_Fact___init__ (fun cdv A outer s H E cs a outs hr hR hn => by
    obtain ⟨v_k, v_head, rfl, rfl, rfl⟩ := hR
    exact ⟨_, _, .nx _, rfl, rfl, fun vl => run_Fact___init__ T c_i_Rule_Rule___init___t hr v_k v_head vl⟩)
theorem mk_Fact___init__ (T : Txt K mg) (c_i_Rule_Rule___init___t : CalleeBI P w K mg base "Rule" 1 4 r_Rule___init___t) {C : Str} {fd : FuncData} (F : FunD K "__init__" "Fact.__init__" (defArgs s_Fact___init__) (defBody s_Fact___init__) (defScope s_Fact___init__) [] [] (He.ma K (He.ga K C) "__init__") fd) : CalleeBI P w K mg base C 3 2 r_Fact___init__ :=
  ⟨fd, ["self", "head"], ok_Fact___init__ T c_i_Rule_Rule___init___t F, FunD.bindsN F fun _ _ _ _ _ _ us hl => match us, hl with | [_, _], _ => rfl⟩
end
/-! law_made -/
def m_law_made (v_kind : Int) (v_label : Str) (v_texts : (List Str)) : (Nat × Str × Str × (List Str)) := (cond (v_kind == (0 : Int)) (1, (mi_Rule___init___l v_label (itm v_texts (0 : Int)) (cut v_texts (some (1 : Int)) none))) (cond (v_kind == (1 : Int)) (2, (mi_Rule___init___l v_label (itm v_texts (0 : Int)) (cut v_texts (some (1 : Int)) none))) (cond (v_kind == (2 : Int)) (3, (mi_Rule___init___l v_label (itm v_texts (0 : Int)) (cut v_texts (some (1 : Int)) none))) (0, (mi_Fact___init__ (itm v_texts (0 : Int)))))))
def k_law_made (v_kind : Int) (v_label : Str) (v_texts : (List Str)) : Prop := (((v_kind == (0 : Int)) = true → (inI v_texts (0 : Int) = true)) ∧ ((v_kind == (0 : Int)) = false → (((v_kind == (1 : Int)) = true → (inI v_texts (0 : Int) = true)) ∧ ((v_kind == (1 : Int)) = false → (((v_kind == (2 : Int)) = true → (inI v_texts (0 : Int) = true)) ∧ ((v_kind == (2 : Int)) = false → (inI v_texts (0 : Int) = true)))))))
abbrev s_law_made : Stmt := top 33
theorem sc_law_made : FnScope ["_law_kind", "_law_label", "_law_texts"] ["_law_kind", "_law_label", "_law_texts"] (defScope s_law_made) := ⟨rfl, rfl, rfl, by decide +kernel, rfl, by decide +kernel, by decide +kernel⟩
def r_law_made : List Dt → Sum Cell Xc → Prop := fun ds a => ∃ (v_kind : Int) (v_label : Str) (v_texts : (List Str)), k_law_made v_kind v_label v_texts ∧ ds = [(Dt.int v_kind), (Dt.str v_label), (e0_list v_texts)] ∧ a = .inl (.fz (enc_Rule (m_law_made v_kind v_label v_texts)))
section
variable {P : Program} {w : World} {K : PySem.W.Frag} {mg : Str → Option Value} {base : Heap}
theorem run_law_made (T : Txt K mg) (c_i_Block_Rule___init___l : CalleeBI P w K mg base "Block" 1 4 r_Rule___init___l) (c_i_Fact_Fact___init__ : CalleeBI P w K mg base "Fact" 3 2 r_Fact___init__) (c_i_Most_Rule___init___l : CalleeBI P w K mg base "Most" 1 4 r_Rule___init___l) (c_i_Sure_Rule___init___l : CalleeBI P w K mg base "Sure" 1 4 r_Rule___init___l) {f : Addr} {cdv : Value} {A : Around} {outer : List PySem.Env} {s : Shared} {H : Hp} {E : XK} (hr : Room 4 (A.deeper (PyProof.Rows.envOfC "_law_made" (defScope s_law_made) s.heap.objs.size f cdv))) (v_kind : Int) (v_label : Str) (v_texts : (List Str)) (hk : k_law_made v_kind v_label v_texts) :
    Run (cxOf (L2.CX P w) P w K mg base ["_law_kind", "_law_label", "_law_texts"] "_law_made" (defScope s_law_made) f cdv A outer s H E) K (wE E) sv0 (defBody s_law_made) (start0 ["_law_kind", "_law_label", "_law_texts"] [(Dt.int v_kind), (Dt.str v_label), (e0_list v_texts)]) (.rt (.fz (enc_Rule (m_law_made v_kind v_label v_texts))) none) := by
  obtain ⟨h9, h10⟩ := hk
  refine run_gd (fun x : (Nat × Str × Str × (List Str)) => .rt (.fz (enc_Rule x)) none) (1, (mi_Rule___init___l v_label (itm v_texts (0 : Int)) (cut v_texts (some (1 : Int)) none))) (cond (v_kind == (1 : Int)) (2, (mi_Rule___init___l v_label (itm v_texts (0 : Int)) (cut v_texts (some (1 : Int)) none))) (cond (v_kind == (2 : Int)) (3, (mi_Rule___init___l v_label (itm v_texts (0 : Int)) (cut v_texts (some (1 : Int)) none))) (0, (mi_Fact___init__ (itm v_texts (0 : Int)))))) (fun _ h => nomatch h) (eb_cmp says_eqI (xv 0 rfl) ex_int) (fun hb => ?_) (fun hb => ?_)
  · have hk := h9 hb
    have h1 := hk
    exact run_ret (EN.frz (en_make c_i_Sure_Rule___init___l T.mk_Sure T.gc_Sure (fun _ => ⟨rfl, rfl, rfl, rfl, rfl⟩) (fun _ => hr.mono (by decide)) (fun _ => rfl) (ea_cons (xv 1 rfl) (ea_cons (x_ix Dt.str (fun _ => rfl) (EX.esL (xv 2 rfl)) ex_int h1) (ea_cons (EN.frz (x_sliceL Dt.str (fun _ => rfl) (EX.esL (xv 2 rfl)) (eo_some ex_int) eo_none) rfl) ea_nil))) rfl ⟨1, v_label, (itm v_texts (0 : Int)), (cut v_texts (some (1 : Int)) none), rfl, rfl, rfl⟩) rfl)
  · have hk := h10 hb
    obtain ⟨h7, h8⟩ := hk
    refine run_gd (fun x : (Nat × Str × Str × (List Str)) => .rt (.fz (enc_Rule x)) none) (2, (mi_Rule___init___l v_label (itm v_texts (0 : Int)) (cut v_texts (some (1 : Int)) none))) (cond (v_kind == (2 : Int)) (3, (mi_Rule___init___l v_label (itm v_texts (0 : Int)) (cut v_texts (some (1 : Int)) none))) (0, (mi_Fact___init__ (itm v_texts (0 : Int))))) (fun _ h => nomatch h) (eb_cmp says_eqI (xv 0 rfl) ex_int) (fun hb => ?_) (fun hb => ?_)
    · have hk := h7 hb
      have h2 := hk
      exact run_ret (EN.frz (en_make c_i_Most_Rule___init___l T.mk_Most T.gc_Most (fun _ => ⟨rfl, rfl, rfl, rfl, rfl⟩) (fun _ => hr.mono (by decide)) (fun _ => rfl) (ea_cons (xv 1 rfl) (ea_cons (x_ix Dt.str (fun _ => rfl) (EX.esL (xv 2 rfl)) ex_int h2) (ea_cons (EN.frz (x_sliceL Dt.str (fun _ => rfl) (EX.esL (xv 2 rfl)) (eo_some ex_int) eo_none) rfl) ea_nil))) rfl ⟨2, v_label, (itm v_texts (0 : Int)), (cut v_texts (some (1 : Int)) none), rfl, rfl, rfl⟩) rfl)
    · have hk := h8 hb
      obtain ⟨h5, h6⟩ := hk
      refine run_gd (fun x : (Nat × Str × Str × (List Str)) => .rt (.fz (enc_Rule x)) none) (3, (mi_Rule___init___l v_label (itm v_texts (0 : Int)) (cut v_texts (some (1 : Int)) none))) (0, (mi_Fact___init__ (itm v_texts (0 : Int)))) (fun _ h => nomatch h) (eb_cmp says_eqI (xv 0 rfl) ex_int) (fun hb => ?_) (fun hb => ?_)
      · have hk := h5 hb
        have h3 := hk
        exact run_ret (EN.frz (en_make c_i_Block_Rule___init___l T.mk_Block T.gc_Block (fun _ => ⟨rfl, rfl, rfl, rfl, rfl⟩) (fun _ => hr.mono (by decide)) (fun _ => rfl) (ea_cons (xv 1 rfl) (ea_cons (x_ix Dt.str (fun _ => rfl) (EX.esL (xv 2 rfl)) ex_int h3) (ea_cons (EN.frz (x_sliceL Dt.str (fun _ => rfl) (EX.esL (xv 2 rfl)) (eo_some ex_int) eo_none) rfl) ea_nil))) rfl ⟨3, v_label, (itm v_texts (0 : Int)), (cut v_texts (some (1 : Int)) none), rfl, rfl, rfl⟩) rfl)
      · have hk := h6 hb
        have h4 := hk
        exact run_ret (EN.frz (en_make c_i_Fact_Fact___init__ T.mk_Fact T.gc_Fact (fun _ => ⟨rfl, rfl, rfl, rfl, rfl⟩) (fun _ => hr.mono (by decide)) (fun _ => rfl) (ea_cons (x_ix Dt.str (fun _ => rfl) (EX.esL (xv 2 rfl)) ex_int h4) ea_nil) rfl ⟨0, (itm v_texts (0 : Int)), rfl, rfl, rfl⟩) rfl)
theorem ok_law_made (T : Txt K mg) (c_i_Block_Rule___init___l : CalleeBI P w K mg base "Block" 1 4 r_Rule___init___l) (c_i_Fact_Fact___init__ : CalleeBI P w K mg base "Fact" 3 2 r_Fact___init__) (c_i_Most_Rule___init___l : CalleeBI P w K mg base "Most" 1 4 r_Rule___init___l) (c_i_Sure_Rule___init___l : CalleeBI P w K mg base "Sure" 1 4 r_Rule___init___l) {f : Addr} {fd : FuncData} (F : FunD K "_law_made" "_law_made" (defArgs s_law_made) (defBody s_law_made) (defScope s_law_made) [] [] f fd) : FnOk P w K mg base (L2.CX P w) 5 f fd ["_law_kind", "_law_label", "_law_texts"] (spR K 3 r_law_made) :=
  fnOk_mk F sc_law_made (fun cdv A outer s H E ds a hr hR hn => by
    obtain ⟨v_kind, v_label, v_texts, hk, rfl, rfl⟩ := hR
    exact ⟨_, .rt _, run_law_made T c_i_Block_Rule___init___l c_i_Fact_Fact___init__ c_i_Most_Rule___init___l c_i_Sure_Rule___init___l hr v_kind v_label v_texts hk⟩)
theorem mk_law_made (T : Txt K mg) (c_i_Block_Rule___init___l : CalleeBI P w K mg base "Block" 1 4 r_Rule___init___l) (c_i_Fact_Fact___init__ : CalleeBI P w K mg base "Fact" 3 2 r_Fact___init__) (c_i_Most_Rule___init___l : CalleeBI P w K mg base "Most" 1 4 r_Rule___init___l) (c_i_Sure_Rule___init___l : CalleeBI P w K mg base "Sure" 1 4 r_Rule___init___l) {f : Addr} {fd : FuncData} (F : FunD K "_law_made" "_law_made" (defArgs s_law_made) (defBody s_law_made) (defScope s_law_made) [] [] f fd) {x : Str} (gf : mg x = some (.ref f)) : Callee P w K mg base x 5 3 r_law_made :=
  ⟨f, fd, ["_law_kind", "_law_label", "_law_texts"], ok_law_made T c_i_Block_Rule___init___l c_i_Fact_Fact___init__ c_i_Most_Rule___init___l c_i_Sure_Rule___init___l F, gf, F.kp, FunD.bindsN F fun _ _ _ _ _ _ us hl => match us, hl with | [_, _, _], _ => rfl⟩
end
/-! law_order -/
def m_law_order_1  (v_st_2 : ((List Str))) : (Step ((List Str)) (List Str)) := (.nx v_st_2)
def m_law_order_2  (v_st_1 : ((List Str))) (v_it_1 : Str) : Step ((List Str)) (List Str) := (m_law_order_1 (cond ((leS (Str.ofString "A") (sgn v_it_1 (0 : Int)) && leS (sgn v_it_1 (0 : Int)) (Str.ofString "Z")) && (!(List.elem v_it_1 v_st_1))) (v_st_1 ++ [v_it_1]) v_st_1))
def k_law_order_2  (v_st_1 : ((List Str))) (v_it_1 : Str) : Prop := (((atI (v_it_1).cps.toList (0 : Int)).isSome = true) ∧ (((leS (Str.ofString "A") (sgn v_it_1 (0 : Int)) && leS (sgn v_it_1 (0 : Int)) (Str.ofString "Z")) && (!(List.elem v_it_1 v_st_1))) = true → ((v_st_1).length + 1 ≤ big)))
def m_law_order_3  (v_st_1 : ((List Str))) : (Step ((List Str)) (List Str)) := (.nx v_st_1)
def m_law_order_4  (v_st : ((List Str))) (v_it : (Str × Str × (List Str))) : Step ((List Str)) (List Str) := (loop (m_law_order_2) (fun y => Step.fin y) (m_law_order_3) v_it.2.2 v_st)
def k_law_order_4  (v_st : ((List Str))) (v_it : (Str × Str × (List Str))) : Prop := (LoopAll (k_law_order_2) (fun _ => True) (m_law_order_2) v_it.2.2 v_st)
def m_law_order_5  (v_st : ((List Str))) : (List Str) := v_st
def m_law_order_6 (v_specs_here : (List (Str × Str × (List Str)))) (v_found : (List Str)) : (List Str) := (loop (m_law_order_4) (fun y => y) (m_law_order_5) v_specs_here v_found)
def k_law_order_6 (v_specs_here : (List (Str × Str × (List Str)))) (v_found : (List Str)) : Prop := (LoopAll (k_law_order_4) (fun _ => True) (m_law_order_4) v_specs_here v_found)
def m_law_order (v_specs_here : (List (Str × Str × (List Str)))) : (List Str) := (m_law_order_6 v_specs_here [])
def k_law_order (v_specs_here : (List (Str × Str × (List Str)))) : Prop := (k_law_order_6 v_specs_here [])
abbrev s_law_order : Stmt := top 32
theorem sc_law_order : FnScope ["_law_specs_here", "_law_found", "_law_side", "_law_name", "_law_places", "_law_place"] ["_law_specs_here"] (defScope s_law_order) := ⟨rfl, rfl, rfl, by decide +kernel, rfl, by decide +kernel, by decide +kernel⟩
def r_law_order : List Dt → Sum Cell Xc → Prop := fun ds a => ∃ (v_specs_here : (List (Str × Str × (List Str)))), k_law_order v_specs_here ∧ ds = [(e5_list v_specs_here)] ∧ a = .inl (.ol (List.map Dt.str (m_law_order v_specs_here)))
section
variable {P : Program} {w : World} {K : PySem.W.Frag} {mg : Str → Option Value} {base : Heap}
theorem run_law_order (T : Txt K mg)  {f : Addr} {cdv : Value} {A : Around} {outer : List PySem.Env} {s : Shared} {H : Hp} {E : XK} (hr : Room 0 (A.deeper (PyProof.Rows.envOfC "_law_order" (defScope s_law_order) s.heap.objs.size f cdv))) (v_specs_here : (List (Str × Str × (List Str)))) (hk : k_law_order v_specs_here) :
    Run (cxOf (L2.CX P w) P w K mg base ["_law_specs_here", "_law_found", "_law_side", "_law_name", "_law_places", "_law_place"] "_law_order" (defScope s_law_order) f cdv A outer s H E) K (wE E) sv0 (defBody s_law_order) (start0 ["_law_specs_here", "_law_found", "_law_side", "_law_name", "_law_places", "_law_place"] [(e5_list v_specs_here)]) (.rt (.ol (List.map Dt.str (m_law_order v_specs_here))) none) := by
  have h8 := hk
  refine run_asgE (i := 1) [] (fun v_found => .ol (List.map Dt.str v_found)) (fun _ => _) (fun v_found => [Zf (e5_list v_specs_here), some (.ol (List.map Dt.str v_found)), none, none, none, none]) (fun v_found => .rt (.ol (List.map Dt.str (m_law_order_6 v_specs_here v_found))) none) (k_law_order_6 v_specs_here) (EN.ev (en_lst ea_nil (Nat.le_of_ble_eq_true rfl))) h8 sc_law_order.nd (fun _ => rfl) (fun v_found hk => ?_)
  have h7 := hk
  refine run_forQ (js := [2, 3, 4]) (P := (k_law_order_4)) (Q := (fun _ => True)) (s0 := v_found) e1_tup (fun v_st : ((List Str)) => [Zf (e5_list v_specs_here), some (.ol (List.map Dt.str v_st)), none, none, none, none]) (fun (v_st : ((List Str))) (v_it : (Str × Str × (List Str))) => [Zf (e5_list v_specs_here), some (.ol (List.map Dt.str v_st)), Zf (Dt.str v_it.1), Zf (Dt.str v_it.2.1), Zf (e0_list v_it.2.2), none]) (fun x : (List Str) => .rt (.ol (List.map Dt.str x)) none) (m_law_order_4) (fun y => y) (m_law_order_5) (passes_of rfl) rfl (pg_tup (n := 3) rfl (pgs_cons (pg_name (i := 2) sc_law_order.nd rfl (by first | exact Or.inl rfl | exact Or.inr rfl)) (pgs_cons (pg_name (i := 3) sc_law_order.nd rfl (by first | exact Or.inl rfl | exact Or.inr rfl)) (pgs_cons (pg_name (i := 4) sc_law_order.nd rfl (by first | exact Or.inl rfl | exact Or.inr rfl)) pgs_nil)))) rfl (fun _ => trivial) (src_list rfl (xv 0 rfl)) (.keep (.keep (.keep (.keep (.keep (.keep .nil)))))) (fun _ _ => (bd_tup (bdl_cons (bd_name (Nat.blt_eq.mp rfl)) (bdl_cons (bd_name (Nat.blt_eq.mp rfl)) (bdl_cons (bd_name (Nat.blt_eq.mp rfl)) bdl_nil))) rfl)) h7 (fun v_st v_it hm hk => ?_) (fun v_st _ => ?_)
  · have h6 := hk
    refine run_forQ (js := [5]) (P := (k_law_order_2)) (Q := (fun _ => True)) (s0 := v_st) Dt.str (fun v_st_1 : ((List Str)) => [Zf (e5_list v_specs_here), some (.ol (List.map Dt.str v_st_1)), Zf (Dt.str v_it.1), Zf (Dt.str v_it.2.1), Zf (e0_list v_it.2.2), none]) (fun (v_st_1 : ((List Str))) (v_it_1 : Str) => [Zf (e5_list v_specs_here), some (.ol (List.map Dt.str v_st_1)), Zf (Dt.str v_it.1), Zf (Dt.str v_it.2.1), Zf (e0_list v_it.2.2), Zf (Dt.str v_it_1)]) (fun x : (Step ((List Str)) (List Str)) => x.out (fun v_st : ((List Str)) => [Zf (e5_list v_specs_here), some (.ol (List.map Dt.str v_st)), none, none, none, none]) (fun x : (List Str) => .rt (.ol (List.map Dt.str x)) none)) (m_law_order_2) (fun y => Step.fin y) (m_law_order_3) (passes_of rfl) rfl (pg_name (i := 5) sc_law_order.nd rfl (by first | exact Or.inl rfl | exact Or.inr rfl)) rfl (fun _ => trivial) (src_list rfl (xv 4 rfl)) (.keep (.keep (.keep (.keep (.keep (.keep .nil)))))) (fun _ _ => (bd_name (Nat.blt_eq.mp rfl))) h6 (fun v_st_1 v_it_1 hm hk => ?_) (fun v_st_1 _ => ?_)
    · obtain ⟨h3, h4⟩ := hk
      refine run_ifP (s1 := (v_st_1 ++ [v_it_1])) (s2 := v_st_1) (fun v_st_2 : ((List Str)) => [Zf (e5_list v_specs_here), some (.ol (List.map Dt.str v_st_2)), Zf (Dt.str v_it.1), Zf (Dt.str v_it.2.1), Zf (e0_list v_it.2.2), Zf (Dt.str v_it_1)]) (fun v_st_2 => (Step.out (fun v_st_1 : ((List Str)) => [Zf (e5_list v_specs_here), some (.ol (List.map Dt.str v_st_1)), Zf (Dt.str v_it.1), Zf (Dt.str v_it.2.1), Zf (e0_list v_it.2.2), none]) (fun x : (List Str) => .rt (.ol (List.map Dt.str x)) none) (m_law_order_1 v_st_2))) (fun _ => True) (eb_w (ebw_and (eb_leLeS (ex_str (h := by decide +kernel)) (x_ixS (xv 5 rfl) ex_int h3) (ex_str (h := by decide +kernel))) (fun hb5 => (ebw_and1 (xb_niS (fun _ => rfl) (xv 5 rfl) (EP.es (pp 1 rfl) rfl)))))) trivial (fun hb => ?_) (fun hb => ?_) (fun v_st_2 _ => ?_)
      · have hk := h4 hb
        have h2 := hk
        refine run_append (i := 1) (π := []) (xs := v_st_1) (y := v_it_1) (G' := [Zf (e5_list v_specs_here), some (.ol (List.map Dt.str (v_st_1 ++ [v_it_1]))), Zf (Dt.str v_it.1), Zf (Dt.str v_it.2.1), Zf (e0_list v_it.2.2), Zf (Dt.str v_it_1)]) Dt.str rfl (pp 1 rfl) rfl (xv 5 rfl) h2 rfl ?_
        exact run_end (.keep (.keep (.keep (.keep (.keep (.keep .nil))))))
      · exact run_end (.keep (.keep (.keep (.keep (.keep (.keep .nil))))))
      · exact run_end (.keep (.keep (.keep (.keep (.keep (.drop .nil))))))
    · exact run_end (.keep (.keep (.drop (.drop (.drop (.keep .nil))))))
  · exact run_retV (i := 1) rfl rfl (by first | exact Or.inl rfl | exact Or.inr (Or.inl rfl))
theorem ok_law_order (T : Txt K mg)  {f : Addr} {fd : FuncData} (F : FunD K "_law_order" "_law_order" (defArgs s_law_order) (defBody s_law_order) (defScope s_law_order) [] [] f fd) : FnOk P w K mg base (L2.CX P w) 1 f fd ["_law_specs_here"] (spR K 1 r_law_order) :=
  fnOk_mk F sc_law_order (fun cdv A outer s H E ds a hr hR hn => by
    obtain ⟨v_specs_here, hk, rfl, rfl⟩ := hR
    exact ⟨_, .rt _, run_law_order T  hr v_specs_here hk⟩)
theorem mk_law_order (T : Txt K mg)  {f : Addr} {fd : FuncData} (F : FunD K "_law_order" "_law_order" (defArgs s_law_order) (defBody s_law_order) (defScope s_law_order) [] [] f fd) {x : Str} (gf : mg x = some (.ref f)) : Callee P w K mg base x 1 1 r_law_order :=
  ⟨f, fd, ["_law_specs_here"], ok_law_order T  F, gf, F.kp, FunD.bindsN F fun _ _ _ _ _ _ us hl => match us, hl with | [_], _ => rfl⟩
end
/-! law_due -/
def m_law_due_1  (v_many : Int) : (Step (Int) (List (List Str))) := (.nx v_many)
def m_law_due_2 (v_things : (List Str)) (v_st : (Int)) (v_it : Str) : Step (Int) (List (List Str)) := (m_law_due_1 (v_st * ((v_things).length : Int)))
def k_law_due_2 (v_things : (List Str)) (v_st : (Int)) (v_it : Str) : Prop := (mulOk v_st ((v_things).length : Int))
def m_law_due_3 (v_things : (List Str)) (v_st_2 : ((List (Str × Str)) × Int)) (v_it_2 : Str) (v_left_1 : Int) : (Step ((List (Str × Str)) × Int) (List (List Str))) := (.nx ((puts v_st_2.1 v_it_2 (itm v_things (v_st_2.2 % ((v_things).length : Int)))), v_left_1))
def m_law_due_4 (v_things : (List Str)) (v_st_2 : ((List (Str × Str)) × Int)) (v_it_2 : Str) : Step ((List (Str × Str)) × Int) (List (List Str)) := (m_law_due_3 v_things v_st_2 v_it_2 (v_st_2.2 / ((v_things).length : Int)))
def k_law_due_4 (v_things : (List Str)) (v_st_2 : ((List (Str × Str)) × Int)) (v_it_2 : Str) : Prop := (((0 : Int) < ((v_things).length : Int)) ∧ (inI v_things (v_st_2.2 % ((v_things).length : Int)) = true) ∧ ((v_st_2.1).length + 1 ≤ big) ∧ ((0 : Int) < ((v_things).length : Int) ∧ ((v_things).length : Int) < 1073741824))
def m_law_due_5 (v_specs_here : (List (Str × Str × (List Str)))) (v_st_1 : ((List (List Str)))) (v_st_2 : ((List (Str × Str)) × Int)) : (Step ((List (List Str))) (List (List Str))) := (.nx (v_st_1 ++ [(List.map (fun v_item : (Str × Str × (List Str)) => (m_law_text v_item v_st_2.1)) v_specs_here)]))
def k_law_due_5 (v_specs_here : (List (Str × Str × (List Str)))) (v_st_1 : ((List (List Str)))) (v_st_2 : ((List (Str × Str)) × Int)) : Prop := (((v_specs_here).length ≤ big) ∧ (∀ v_item ∈ v_specs_here, (k_law_text v_item v_st_2.1)) ∧ ((v_st_1).length + 1 ≤ big))
def m_law_due_6 (v_specs_here : (List (Str × Str × (List Str)))) (v_things : (List Str)) (v_order_here : (List Str)) (v_st_1 : ((List (List Str)))) (v_given : (List (Str × Str))) (v_left : Int) : (Step ((List (List Str))) (List (List Str))) := (loop (m_law_due_4 v_things) (fun y => Step.fin y) (m_law_due_5 v_specs_here v_st_1) (List.reverse v_order_here) (v_given, v_left))
def k_law_due_6 (v_specs_here : (List (Str × Str × (List Str)))) (v_things : (List Str)) (v_order_here : (List Str)) (v_st_1 : ((List (List Str)))) (v_given : (List (Str × Str))) (v_left : Int) : Prop := (LoopAll (k_law_due_4 v_things) (k_law_due_5 v_specs_here v_st_1) (m_law_due_4 v_things) (List.reverse v_order_here) (v_given, v_left))
def m_law_due_7 (v_specs_here : (List (Str × Str × (List Str)))) (v_things : (List Str)) (v_order_here : (List Str)) (v_st_1 : ((List (List Str)))) (v_it_1 : Nat) (v_given : (List (Str × Str))) : (Step ((List (List Str))) (List (List Str))) := (m_law_due_6 v_specs_here v_things v_order_here v_st_1 v_given (v_it_1 : Int))
def k_law_due_7 (v_specs_here : (List (Str × Str × (List Str)))) (v_things : (List Str)) (v_order_here : (List Str)) (v_st_1 : ((List (List Str)))) (v_it_1 : Nat) (v_given : (List (Str × Str))) : Prop := (k_law_due_6 v_specs_here v_things v_order_here v_st_1 v_given (v_it_1 : Int))
def m_law_due_8 (v_specs_here : (List (Str × Str × (List Str)))) (v_things : (List Str)) (v_order_here : (List Str)) (v_st_1 : ((List (List Str)))) (v_it_1 : Nat) : Step ((List (List Str))) (List (List Str)) := (m_law_due_7 v_specs_here v_things v_order_here v_st_1 v_it_1 [])
def k_law_due_8 (v_specs_here : (List (Str × Str × (List Str)))) (v_things : (List Str)) (v_order_here : (List Str)) (v_st_1 : ((List (List Str)))) (v_it_1 : Nat) : Prop := (k_law_due_7 v_specs_here v_things v_order_here v_st_1 v_it_1 [])
def m_law_due_9  (v_st_1 : ((List (List Str)))) : (List (List Str)) := v_st_1
def m_law_due_10 (v_specs_here : (List (Str × Str × (List Str)))) (v_things : (List Str)) (v_order_here : (List Str)) (v_st : (Int)) (v_due_here : (List (List Str))) : (List (List Str)) := (loop (m_law_due_8 v_specs_here v_things v_order_here) (fun y => y) (m_law_due_9) (List.range (Int.toNat v_st)) v_due_here)
def k_law_due_10 (v_specs_here : (List (Str × Str × (List Str)))) (v_things : (List Str)) (v_order_here : (List Str)) (v_st : (Int)) (v_due_here : (List (List Str))) : Prop := ((rngOk v_st) ∧ (LoopAll (k_law_due_8 v_specs_here v_things v_order_here) (fun _ => True) (m_law_due_8 v_specs_here v_things v_order_here) (List.range (Int.toNat v_st)) v_due_here))
def m_law_due_11 (v_specs_here : (List (Str × Str × (List Str)))) (v_things : (List Str)) (v_order_here : (List Str)) (v_st : (Int)) : (List (List Str)) := (m_law_due_10 v_specs_here v_things v_order_here v_st [])
def k_law_due_11 (v_specs_here : (List (Str × Str × (List Str)))) (v_things : (List Str)) (v_order_here : (List Str)) (v_st : (Int)) : Prop := (k_law_due_10 v_specs_here v_things v_order_here v_st [])
def m_law_due_12 (v_specs_here : (List (Str × Str × (List Str)))) (v_things : (List Str)) (v_order_here : (List Str)) : (List (List Str)) := (loop (m_law_due_2 v_things) (fun y => y) (m_law_due_11 v_specs_here v_things v_order_here) v_order_here (1 : Int))
def k_law_due_12 (v_specs_here : (List (Str × Str × (List Str)))) (v_things : (List Str)) (v_order_here : (List Str)) : Prop := (LoopAll (k_law_due_2 v_things) (k_law_due_11 v_specs_here v_things v_order_here) (m_law_due_2 v_things) v_order_here (1 : Int))
def m_law_due (v_specs_here : (List (Str × Str × (List Str)))) (v_things : (List Str)) : (List (List Str)) := (m_law_due_12 v_specs_here v_things (m_law_order v_specs_here))
def k_law_due (v_specs_here : (List (Str × Str × (List Str)))) (v_things : (List Str)) : Prop := ((k_law_order v_specs_here) ∧ (k_law_due_12 v_specs_here v_things (m_law_order v_specs_here)))
abbrev s_law_due : Stmt := top 35
theorem sc_law_due : FnScope ["_law_specs_here", "_law_things", "_law_order_here", "_law_many", "_law_letter", "_law_due_here", "_law_number", "_law_given", "_law_left", "_law_spec"] ["_law_specs_here", "_law_things"] (defScope s_law_due) := ⟨rfl, rfl, rfl, by decide +kernel, rfl, by decide +kernel, by decide +kernel⟩
def r_law_due : List Dt → Sum Cell Xc → Prop := fun ds a => ∃ (v_specs_here : (List (Str × Str × (List Str)))) (v_things : (List Str)), k_law_due v_specs_here v_things ∧ ds = [(e5_list v_specs_here), (e0_list v_things)] ∧ a = .inl (.ol (List.map e0_list (m_law_due v_specs_here v_things)))
section
variable {P : Program} {w : World} {K : PySem.W.Frag} {mg : Str → Option Value} {base : Heap}
theorem run_law_due (T : Txt K mg) (c_law_order : Callee P w K mg base "_law_order" 1 1 r_law_order) (c_law_text : Callee P w K mg base "_law_text" 1 2 r_law_text) {f : Addr} {cdv : Value} {A : Around} {outer : List PySem.Env} {s : Shared} {H : Hp} {E : XK} (hr : Room 1 (A.deeper (PyProof.Rows.envOfC "_law_due" (defScope s_law_due) s.heap.objs.size f cdv))) (v_specs_here : (List (Str × Str × (List Str)))) (v_things : (List Str)) (hk : k_law_due v_specs_here v_things) :
    Run (cxOf (L2.CX P w) P w K mg base ["_law_specs_here", "_law_things", "_law_order_here", "_law_many", "_law_letter", "_law_due_here", "_law_number", "_law_given", "_law_left", "_law_spec"] "_law_due" (defScope s_law_due) f cdv A outer s H E) K (wE E) sv0 (defBody s_law_due) (start0 ["_law_specs_here", "_law_things", "_law_order_here", "_law_many", "_law_letter", "_law_due_here", "_law_number", "_law_given", "_law_left", "_law_spec"] [(e5_list v_specs_here), (e0_list v_things)]) (.rt (.ol (List.map e0_list (m_law_due v_specs_here v_things))) none) := by
  obtain ⟨h18, h19⟩ := hk
  refine run_asgE (i := 2) (m_law_order v_specs_here) (fun v_order_here => .fz (e0_list v_order_here)) (fun _ => _) (fun v_order_here => [Zf (e5_list v_specs_here), Zf (e0_list v_things), Zf (e0_list v_order_here), none, none, none, none, none, none, none]) (fun v_order_here => .rt (.ol (List.map e0_list (m_law_due_12 v_specs_here v_things v_order_here))) none) (k_law_due_12 v_specs_here v_things) (EX.ev (EN.frz (en_call c_law_order (fun _ => ⟨rfl, rfl, rfl, rfl, rfl⟩) (fun _ => hr.mono (by decide)) (fun _ => rfl) (ea_cons (xv 0 rfl) ea_nil) rfl ⟨v_specs_here, h18, rfl, rfl⟩) rfl)) h19 sc_law_due.nd (fun _ => rfl) (fun v_order_here hk => ?_)
  have h17 := hk
  refine run_asgQ (i := 3) (Gk := [Zf (e5_list v_specs_here), Zf (e0_list v_things), Zf (e0_list v_order_here), Zf (Dt.int (1 : Int)), none, none, none, none, none, none]) (EX.ev ex_int) sc_law_due.nd rfl ?_
  have hk := h17
  have h16 := hk
  refine run_forQ (js := [4]) (P := (k_law_due_2 v_things)) (Q := (k_law_due_11 v_specs_here v_things v_order_here)) (s0 := (1 : Int)) Dt.str (fun v_st : (Int) => [Zf (e5_list v_specs_here), Zf (e0_list v_things), Zf (e0_list v_order_here), Zf (Dt.int v_st), none, none, none, none, none, none]) (fun (v_st : (Int)) (v_it : Str) => [Zf (e5_list v_specs_here), Zf (e0_list v_things), Zf (e0_list v_order_here), Zf (Dt.int v_st), Zf (Dt.str v_it), none, none, none, none, none]) (fun x : (List (List Str)) => .rt (.ol (List.map e0_list x)) none) (m_law_due_2 v_things) (fun y => y) (m_law_due_11 v_specs_here v_things v_order_here) (passes_of rfl) rfl (pg_name (i := 4) sc_law_due.nd rfl (by first | exact Or.inl rfl | exact Or.inr rfl)) rfl (fun _ => trivial) (src_list rfl (xv 2 rfl)) (.keep (.keep (.keep (.keep (.keep (.keep (.keep (.keep (.keep (.keep .nil)))))))))) (fun _ _ => (bd_name (Nat.blt_eq.mp rfl))) h16 (fun v_st v_it hm hk => ?_) (fun v_st hk => ?_)
  · have h1 := hk
    refine run_asgE (i := 3) (v_st * ((v_things).length : Int)) (fun v_many => .fz (Dt.int v_many)) (fun _ => _) (fun v_many => [Zf (e5_list v_specs_here), Zf (e0_list v_things), Zf (e0_list v_order_here), Zf (Dt.int v_many), Zf (Dt.str v_it), none, none, none, none, none]) (fun v_many => (Step.out (fun v_st : (Int) => [Zf (e5_list v_specs_here), Zf (e0_list v_things), Zf (e0_list v_order_here), Zf (Dt.int v_st), none, none, none, none, none, none]) (fun x : (List (List Str)) => .rt (.ol (List.map e0_list x)) none) (m_law_due_1 v_many))) (fun _ => True) (EX.ev (ex_mul (xv 3 rfl) (x_len Dt.str (fun _ => rfl) (EX.esL (xv 1 rfl)) (fun _ => rfl) (fun _ => T.n_len)) h1)) trivial sc_law_due.nd (fun _ => rfl) (fun v_many _ => ?_)
    exact run_end (.keep (.keep (.keep (.keep (.drop (.keep (.keep (.keep (.keep (.keep .nil))))))))))
  · have h15 := hk
    refine run_asgE (i := 5) [] (fun v_due_here => .ol (List.map e0_list v_due_here)) (fun _ => _) (fun v_due_here => [Zf (e5_list v_specs_here), Zf (e0_list v_things), Zf (e0_list v_order_here), Zf (Dt.int v_st), none, some (.ol (List.map e0_list v_due_here)), none, none, none, none]) (fun v_due_here => .rt (.ol (List.map e0_list (m_law_due_10 v_specs_here v_things v_order_here v_st v_due_here))) none) (k_law_due_10 v_specs_here v_things v_order_here v_st) (EN.ev (en_lst ea_nil (Nat.le_of_ble_eq_true rfl))) h15 sc_law_due.nd (fun _ => rfl) (fun v_due_here hk => ?_)
    obtain ⟨h13, h14⟩ := hk
    refine run_forQ (js := [6]) (P := (k_law_due_8 v_specs_here v_things v_order_here)) (Q := (fun _ => True)) (s0 := v_due_here) (fun i : Nat => Dt.int (i : Int)) (fun v_st_1 : ((List (List Str))) => [Zf (e5_list v_specs_here), Zf (e0_list v_things), Zf (e0_list v_order_here), Zf (Dt.int v_st), none, some (.ol (List.map e0_list v_st_1)), none, none, none, none]) (fun (v_st_1 : ((List (List Str)))) (v_it_1 : Nat) => [Zf (e5_list v_specs_here), Zf (e0_list v_things), Zf (e0_list v_order_here), Zf (Dt.int v_st), none, some (.ol (List.map e0_list v_st_1)), Zf (Dt.int (v_it_1 : Int)), none, none, none]) (fun x : (List (List Str)) => .rt (.ol (List.map e0_list x)) none) (m_law_due_8 v_specs_here v_things v_order_here) (fun y => y) (m_law_due_9) (passes_of rfl) rfl (pg_name (i := 6) sc_law_due.nd rfl (by first | exact Or.inl rfl | exact Or.inr rfl)) rfl (fun _ => trivial) (src_range1 rfl T.n_range (xv 3 rfl) h13.1 h13.2) (.keep (.keep (.keep (.keep (.keep (.keep (.keep (.keep (.keep (.keep .nil)))))))))) (fun _ _ => (bd_name (Nat.blt_eq.mp rfl))) h14 (fun v_st_1 v_it_1 hm hk => ?_) (fun v_st_1 _ => ?_)
    · have h12 := hk
      refine run_asgE (i := 7) [] (fun v_given => .od (encK Sum.inr Dt.str v_given)) (fun _ => _) (fun v_given => [Zf (e5_list v_specs_here), Zf (e0_list v_things), Zf (e0_list v_order_here), Zf (Dt.int v_st), none, some (.ol (List.map e0_list v_st_1)), Zf (Dt.int (v_it_1 : Int)), some (.od (encK Sum.inr Dt.str v_given)), none, none]) (fun v_given => (Step.out (fun v_st_1 : ((List (List Str))) => [Zf (e5_list v_specs_here), Zf (e0_list v_things), Zf (e0_list v_order_here), Zf (Dt.int v_st), none, some (.ol (List.map e0_list v_st_1)), none, none, none, none]) (fun x : (List (List Str)) => .rt (.ol (List.map e0_list x)) none) (m_law_due_7 v_specs_here v_things v_order_here v_st_1 v_it_1 v_given))) (k_law_due_7 v_specs_here v_things v_order_here v_st_1 v_it_1) (EN.ev en_dic0) h12 sc_law_due.nd (fun _ => rfl) (fun v_given hk => ?_)
      have h11 := hk
      refine run_asgE (i := 8) (v_it_1 : Int) (fun v_left => .fz (Dt.int v_left)) (fun _ => _) (fun v_left => [Zf (e5_list v_specs_here), Zf (e0_list v_things), Zf (e0_list v_order_here), Zf (Dt.int v_st), none, some (.ol (List.map e0_list v_st_1)), Zf (Dt.int (v_it_1 : Int)), some (.od (encK Sum.inr Dt.str v_given)), Zf (Dt.int v_left), none]) (fun v_left => (Step.out (fun v_st_1 : ((List (List Str))) => [Zf (e5_list v_specs_here), Zf (e0_list v_things), Zf (e0_list v_order_here), Zf (Dt.int v_st), none, some (.ol (List.map e0_list v_st_1)), none, none, none, none]) (fun x : (List (List Str)) => .rt (.ol (List.map e0_list x)) none) (m_law_due_6 v_specs_here v_things v_order_here v_st_1 v_given v_left))) (k_law_due_6 v_specs_here v_things v_order_here v_st_1 v_given) (EX.ev (xv 6 rfl)) h11 sc_law_due.nd (fun _ => rfl) (fun v_left hk => ?_)
      have h10 := hk
      refine run_forQ (js := [4]) (P := (k_law_due_4 v_things)) (Q := (k_law_due_5 v_specs_here v_st_1)) (s0 := (v_given, v_left)) Dt.str (fun v_st_2 : ((List (Str × Str)) × Int) => [Zf (e5_list v_specs_here), Zf (e0_list v_things), Zf (e0_list v_order_here), Zf (Dt.int v_st), none, some (.ol (List.map e0_list v_st_1)), Zf (Dt.int (v_it_1 : Int)), some (.od (encK Sum.inr Dt.str v_st_2.1)), Zf (Dt.int v_st_2.2), none]) (fun (v_st_2 : ((List (Str × Str)) × Int)) (v_it_2 : Str) => [Zf (e5_list v_specs_here), Zf (e0_list v_things), Zf (e0_list v_order_here), Zf (Dt.int v_st), Zf (Dt.str v_it_2), some (.ol (List.map e0_list v_st_1)), Zf (Dt.int (v_it_1 : Int)), some (.od (encK Sum.inr Dt.str v_st_2.1)), Zf (Dt.int v_st_2.2), none]) (fun x : (Step ((List (List Str))) (List (List Str))) => x.out (fun v_st_1 : ((List (List Str))) => [Zf (e5_list v_specs_here), Zf (e0_list v_things), Zf (e0_list v_order_here), Zf (Dt.int v_st), none, some (.ol (List.map e0_list v_st_1)), none, none, none, none]) (fun x : (List (List Str)) => .rt (.ol (List.map e0_list x)) none)) (m_law_due_4 v_things) (fun y => Step.fin y) (m_law_due_5 v_specs_here v_st_1) (passes_of rfl) rfl (pg_name (i := 4) sc_law_due.nd rfl (by first | exact Or.inl rfl | exact Or.inr rfl)) rfl (fun _ => trivial) (src_rev Dt.str rfl rfl T.n_reversed (xv 2 rfl)) (.keep (.keep (.keep (.keep (.keep (.keep (.keep (.keep (.keep (.keep .nil)))))))))) (fun _ _ => (bd_name (Nat.blt_eq.mp rfl))) h10 (fun v_st_2 v_it_2 hm hk => ?_) (fun v_st_2 hk => ?_)
      · obtain ⟨h3, h4, h5, h6⟩ := hk
        refine run_setD (g := Sum.inr) (i := 7) (π := []) (kvs := v_st_2.1) (k := v_it_2) (a := (itm v_things (v_st_2.2 % ((v_things).length : Int)))) (G' := [Zf (e5_list v_specs_here), Zf (e0_list v_things), Zf (e0_list v_order_here), Zf (Dt.int v_st), Zf (Dt.str v_it_2), some (.ol (List.map e0_list v_st_1)), Zf (Dt.int (v_it_1 : Int)), some (.od (encK Sum.inr Dt.str (puts v_st_2.1 v_it_2 (itm v_things (v_st_2.2 % ((v_things).length : Int)))))), Zf (Dt.int v_st_2.2), none]) Dt.str (fun _ _ h => Sum.inr.inj h) (keyS _) (units_of hr) (pp 7 rfl) rfl (x_ix Dt.str (fun _ => rfl) (EX.esL (xv 1 rfl)) (ex_mod (xv 8 rfl) (x_len Dt.str (fun _ => rfl) (EX.esL (xv 1 rfl)) (fun _ => rfl) (fun _ => T.n_len)) h3) h4) (xv 4 rfl) h5 rfl ?_
        have hk := h6
        have h2 := hk
        refine run_asgE (i := 8) (v_st_2.2 / ((v_things).length : Int)) (fun v_left_1 => .fz (Dt.int v_left_1)) (fun _ => _) (fun v_left_1 => [Zf (e5_list v_specs_here), Zf (e0_list v_things), Zf (e0_list v_order_here), Zf (Dt.int v_st), Zf (Dt.str v_it_2), some (.ol (List.map e0_list v_st_1)), Zf (Dt.int (v_it_1 : Int)), some (.od (encK Sum.inr Dt.str (puts v_st_2.1 v_it_2 (itm v_things (v_st_2.2 % ((v_things).length : Int)))))), Zf (Dt.int v_left_1), none]) (fun v_left_1 => (Step.out (fun v_st_2 : ((List (Str × Str)) × Int) => [Zf (e5_list v_specs_here), Zf (e0_list v_things), Zf (e0_list v_order_here), Zf (Dt.int v_st), none, some (.ol (List.map e0_list v_st_1)), Zf (Dt.int (v_it_1 : Int)), some (.od (encK Sum.inr Dt.str v_st_2.1)), Zf (Dt.int v_st_2.2), none]) (fun x : (List (List Str)) => .rt (.ol (List.map e0_list x)) none) (m_law_due_3 v_things v_st_2 v_it_2 v_left_1))) (fun _ => True) (EX.ev (ex_fdiv (xv 8 rfl) (x_len Dt.str (fun _ => rfl) (EX.esL (xv 1 rfl)) (fun _ => rfl) (fun _ => T.n_len)) h2)) trivial sc_law_due.nd (fun _ => rfl) (fun v_left_1 _ => ?_)
        exact run_end (.keep (.keep (.keep (.keep (.drop (.keep (.keep (.keep (.keep (.keep .nil))))))))))
      · obtain ⟨h7, h8, h9⟩ := hk
        refine run_append (i := 5) (π := []) (xs := v_st_1) (y := (List.map (fun v_item : (Str × Str × (List Str)) => (m_law_text v_item v_st_2.1)) v_specs_here)) (G' := [Zf (e5_list v_specs_here), Zf (e0_list v_things), Zf (e0_list v_order_here), Zf (Dt.int v_st), none, some (.ol (List.map e0_list (v_st_1 ++ [(List.map (fun v_item : (Str × Str × (List Str)) => (m_law_text v_item v_st_2.1)) v_specs_here)]))), Zf (Dt.int (v_it_1 : Int)), some (.od (encK Sum.inr Dt.str v_st_2.1)), Zf (Dt.int v_st_2.2), none]) e0_list rfl (pp 5 rfl) rfl (EN.frz (EN.isL (x_lc (own := [("_law_spec", 9)]) e1_tup (fun v_item : (Str × Str × (List Str)) => [Zf (e5_list v_specs_here), Zf (e0_list v_things), Zf (e0_list v_order_here), Zf (Dt.int v_st), none, some (.ol (List.map e0_list v_st_1)), Zf (Dt.int (v_it_1 : Int)), some (.od (encK Sum.inr Dt.str v_st_2.1)), Zf (Dt.int v_st_2.2), Zf (e1_tup v_item)]) (fun v_item : (Str × Str × (List Str)) => true) (fun v_item : (Str × Str × (List Str)) => (Dt.str (m_law_text v_item v_st_2.1))) rfl sc_law_due.nd (src_list rfl (xv 0 rfl)) h7 (blkOk_by (by decide +kernel : blkC ["_law_specs_here", "_law_things", "_law_order_here", "_law_many", "_law_letter", "_law_due_here", "_law_number", "_law_given", "_law_left", "_law_spec"] (defScope s_law_due) _ [("_law_spec", 9)] = true)) (by decide) (fun _ => (pg_name (i := 9) sc_law_due.nd rfl (by first | exact Or.inl rfl | exact Or.inr rfl))) (fun _ => (bd_name (Nat.blt_eq.mp rfl))) ⟨tYes, fun _ => pts_nil, fun _ _ F H σ fps Q E q => q F H (Up.refl E.sub)⟩ (fun v_item hm hp => (thaw 7 [] rfl rfl rfl rfl (ex_call c_law_text (fun _ => ⟨rfl, rfl, rfl, rfl, rfl⟩) (fun _ => hr.mono (by decide)) (fun _ => rfl) (ea_cons (xv 9 rfl) (ea_cons (xv 7 rfl) ea_nil)) rfl ⟨v_item, v_st_2.1, (h8 v_item hm), rfl, rfl⟩) (nol_str _)))) (lcM_enc Dt.str (fun v_item : (Str × Str × (List Str)) => (m_law_text v_item v_st_2.1)) v_specs_here)) rfl) h9 rfl ?_
        exact run_end (.keep (.keep (.keep (.keep (.keep (.keep (.drop (.drop (.drop (.keep .nil))))))))))
    · exact run_retV (i := 5) rfl rfl (by first | exact Or.inl rfl | exact Or.inr (Or.inl rfl))
theorem ok_law_due (T : Txt K mg) (c_law_order : Callee P w K mg base "_law_order" 1 1 r_law_order) (c_law_text : Callee P w K mg base "_law_text" 1 2 r_law_text) {f : Addr} {fd : FuncData} (F : FunD K "_law_due" "_law_due" (defArgs s_law_due) (defBody s_law_due) (defScope s_law_due) [] [] f fd) : FnOk P w K mg base (L2.CX P w) 2 f fd ["_law_specs_here", "_law_things"] (spR K 2 r_law_due) :=
  fnOk_mk F sc_law_due (fun cdv A outer s H E ds a hr hR hn => by
    obtain ⟨v_specs_here, v_things, hk, rfl, rfl⟩ := hR
    exact ⟨_, .rt _, run_law_due T c_law_order c_law_text hr v_specs_here v_things hk⟩)
theorem mk_law_due (T : Txt K mg) (c_law_order : Callee P w K mg base "_law_order" 1 1 r_law_order) (c_law_text : Callee P w K mg base "_law_text" 1 2 r_law_text) {f : Addr} {fd : FuncData} (F : FunD K "_law_due" "_law_due" (defArgs s_law_due) (defBody s_law_due) (defScope s_law_due) [] [] f fd) {x : Str} (gf : mg x = some (.ref f)) : Callee P w K mg base x 2 2 r_law_due :=
  ⟨f, fd, ["_law_specs_here", "_law_things"], ok_law_due T c_law_order c_law_text F, gf, F.kp, FunD.bindsN F fun _ _ _ _ _ _ us hl => match us, hl with | [_, _], _ => rfl⟩
end
/-! is_made_of_s -/
def m_is_made_of_s_1 (v_signs : Str) (v_st : (Unit)) (v_it : Nat) : Step (Unit) Bool := (cond (!decide (v_it ∈ (v_signs).cps.toList)) (.fin false) (.nx ()))
def m_is_made_of_s_2  (v_st : (Unit)) : Bool := true
def m_is_made_of_s (v_thing : Str) (v_signs : Str) : Bool := (cond (!(decide ((1 : Int) ≤ (v_thing.length : Int)) && decide ((v_thing.length : Int) ≤ (8 : Int)))) false (loop (m_is_made_of_s_1 v_signs) (fun y => y) (m_is_made_of_s_2) (v_thing).cps.toList ()))
abbrev s_is_made_of_s : Stmt := top 8
theorem sc_is_made_of_s : FnScope ["thing", "signs", "sign"] ["thing", "signs"] (defScope s_is_made_of_s) := ⟨rfl, rfl, rfl, by decide +kernel, rfl, by decide +kernel, by decide +kernel⟩
def r_is_made_of_s : List Dt → Sum Cell Xc → Prop := fun ds a => ∃ (v_thing : Str) (v_signs : Str), ds = [(Dt.str v_thing), (Dt.str v_signs)] ∧ a = .inl (.fz (Dt.bl (m_is_made_of_s v_thing v_signs)))
section
variable {P : Program} {w : World} {K : PySem.W.Frag} {mg : Str → Option Value} {base : Heap}
theorem run_is_made_of_s (T : Txt K mg)  {f : Addr} {cdv : Value} {A : Around} {outer : List PySem.Env} {s : Shared} {H : Hp} {E : XK} (hr : Room 0 (A.deeper (PyProof.Rows.envOfC "is_made_of" (defScope s_is_made_of_s) s.heap.objs.size f cdv))) (v_thing : Str) (v_signs : Str) :
    Run (cxOf (L2.CX P w) P w K mg base ["thing", "signs", "sign"] "is_made_of" (defScope s_is_made_of_s) f cdv A outer s H E) K (wE E) sv0 (defBody s_is_made_of_s) (start0 ["thing", "signs", "sign"] [(Dt.str v_thing), (Dt.str v_signs)]) (.rt (.fz (Dt.bl (m_is_made_of_s v_thing v_signs))) none) := by
  refine run_gd (fun x : Bool => .rt (.fz (Dt.bl x)) none) false (loop (m_is_made_of_s_1 v_signs) (fun y => y) (m_is_made_of_s_2) (v_thing).cps.toList ()) (fun _ h => nomatch h) (eb_w (ebw_orF (eb_not (b := true) (eb_val (ex_isTy (n := "str") (fun _ => rfl) (xv 0 rfl) rfl (by decide +kernel : kitB "str" "str" = some true) (fun _ => rfl) (fun _ => T.n_isinstance) (fun _ => rfl) (fun _ => T.n_str) (by decide +kernel)))) (ebw_or1 (eb_not (eb_leLe ex_int (ex_lenS (xv 0 rfl) (fun _ => rfl) (fun _ => T.n_len)) (ex_gint (fun _ => rfl) (fun _ => T.g_LONGEST))))))) (fun hb => ?_) (fun hb => ?_)
  · exact run_ret ex_bl
  · refine run_forQ (js := [2]) (P := (fun _ _ => True)) (Q := (fun _ => True)) (s0 := ()) (fun c : Nat => Dt.str ⟨#[c]⟩) (fun v_st : (Unit) => [Zf (Dt.str v_thing), Zf (Dt.str v_signs), none]) (fun (v_st : (Unit)) (v_it : Nat) => [Zf (Dt.str v_thing), Zf (Dt.str v_signs), Zf (Dt.str (⟨#[v_it]⟩ : Str))]) (fun x : Bool => .rt (.fz (Dt.bl x)) none) (m_is_made_of_s_1 v_signs) (fun y => y) (m_is_made_of_s_2) (passes_of rfl) rfl (pg_name (i := 2) sc_is_made_of_s.nd rfl (by first | exact Or.inl rfl | exact Or.inr rfl)) rfl (fun _ => trivial) (src_str (xv 0 rfl)) (.keep (.keep (.keep .nil))) (fun _ _ => (bd_name (Nat.blt_eq.mp rfl))) (LoopAll.all (fun _ _ => trivial) (fun _ => trivial) _ _) (fun v_st v_it hm _ => ?_) (fun v_st _ => ?_)
    · refine run_gd (fun x : (Step (Unit) Bool) => x.out (fun v_st : (Unit) => [Zf (Dt.str v_thing), Zf (Dt.str v_signs), none]) (fun x : Bool => .rt (.fz (Dt.bl x)) none)) (.fin false) (.nx ()) (fun _ h => nomatch h) (eb_cmp says_notInC (xv 2 rfl) (xv 1 rfl)) (fun hb => ?_) (fun hb => ?_)
      · exact run_ret ex_bl
      · exact run_end (.keep (.keep (.drop .nil)))
    · exact run_ret ex_bl
theorem ok_is_made_of_s (T : Txt K mg)  {f : Addr} {fd : FuncData} (F : FunD K "is_made_of" "is_made_of" (defArgs s_is_made_of_s) (defBody s_is_made_of_s) (defScope s_is_made_of_s) [] [] f fd) : FnOk P w K mg base (L2.CX P w) 1 f fd ["thing", "signs"] (spR K 2 r_is_made_of_s) :=
  fnOk_mk F sc_is_made_of_s (fun cdv A outer s H E ds a hr hR hn => by
    obtain ⟨v_thing, v_signs, rfl, rfl⟩ := hR
    exact ⟨_, .rt _, run_is_made_of_s T  hr v_thing v_signs⟩)
theorem mk_is_made_of_s (T : Txt K mg)  {f : Addr} {fd : FuncData} (F : FunD K "is_made_of" "is_made_of" (defArgs s_is_made_of_s) (defBody s_is_made_of_s) (defScope s_is_made_of_s) [] [] f fd) {x : Str} (gf : mg x = some (.ref f)) : Callee P w K mg base x 1 2 r_is_made_of_s :=
  ⟨f, fd, ["thing", "signs"], ok_is_made_of_s T  F, gf, F.kp, FunD.bindsN F fun _ _ _ _ _ _ us hl => match us, hl with | [_, _], _ => rfl⟩
end
/-! is_name_s -/
def m_is_name_s (v_thing : Str) : Bool := (m_is_made_of_s v_thing ((Str.ofString "abcdefghijklmnopqrstuvwxyz")))
abbrev s_is_name_s : Stmt := top 9
theorem sc_is_name_s : FnScope ["thing"] ["thing"] (defScope s_is_name_s) := ⟨rfl, rfl, rfl, by decide +kernel, rfl, by decide +kernel, by decide +kernel⟩
def r_is_name_s : List Dt → Sum Cell Xc → Prop := fun ds a => ∃ (v_thing : Str), ds = [(Dt.str v_thing)] ∧ a = .inl (.fz (Dt.bl (m_is_name_s v_thing)))
section
variable {P : Program} {w : World} {K : PySem.W.Frag} {mg : Str → Option Value} {base : Heap}
theorem run_is_name_s (T : Txt K mg) (c_is_made_of_s : Callee P w K mg base "is_made_of" 1 2 r_is_made_of_s) {f : Addr} {cdv : Value} {A : Around} {outer : List PySem.Env} {s : Shared} {H : Hp} {E : XK} (hr : Room 1 (A.deeper (PyProof.Rows.envOfC "is_name" (defScope s_is_name_s) s.heap.objs.size f cdv))) (v_thing : Str) :
    Run (cxOf (L2.CX P w) P w K mg base ["thing"] "is_name" (defScope s_is_name_s) f cdv A outer s H E) K (wE E) sv0 (defBody s_is_name_s) (start0 ["thing"] [(Dt.str v_thing)]) (.rt (.fz (Dt.bl (m_is_name_s v_thing))) none) := by
  exact run_ret (ex_call c_is_made_of_s (fun _ => ⟨rfl, rfl, rfl, rfl, rfl⟩) (fun _ => hr.mono (by decide)) (fun _ => rfl) (ea_cons (xv 0 rfl) (ea_cons (ex_gstr (fun _ => rfl) (fun _ => T.g_SMALL) (hz := by decide +kernel)) ea_nil)) rfl ⟨v_thing, (Str.ofString "abcdefghijklmnopqrstuvwxyz"), rfl, rfl⟩)
theorem ok_is_name_s (T : Txt K mg) (c_is_made_of_s : Callee P w K mg base "is_made_of" 1 2 r_is_made_of_s) {f : Addr} {fd : FuncData} (F : FunD K "is_name" "is_name" (defArgs s_is_name_s) (defBody s_is_name_s) (defScope s_is_name_s) [] [] f fd) : FnOk P w K mg base (L2.CX P w) 2 f fd ["thing"] (spR K 1 r_is_name_s) :=
  fnOk_mk F sc_is_name_s (fun cdv A outer s H E ds a hr hR hn => by
    obtain ⟨v_thing, rfl, rfl⟩ := hR
    exact ⟨_, .rt _, run_is_name_s T c_is_made_of_s hr v_thing⟩)
theorem mk_is_name_s (T : Txt K mg) (c_is_made_of_s : Callee P w K mg base "is_made_of" 1 2 r_is_made_of_s) {f : Addr} {fd : FuncData} (F : FunD K "is_name" "is_name" (defArgs s_is_name_s) (defBody s_is_name_s) (defScope s_is_name_s) [] [] f fd) {x : Str} (gf : mg x = some (.ref f)) : Callee P w K mg base x 2 1 r_is_name_s :=
  ⟨f, fd, ["thing"], ok_is_name_s T c_is_made_of_s F, gf, F.kp, FunD.bindsN F fun _ _ _ _ _ _ us hl => match us, hl with | [_], _ => rfl⟩
end
/-! is_letter_s -/
def m_is_letter_s (v_thing : Str) : Bool := (((v_thing.length : Int) == (1 : Int)) && (inS v_thing (Str.ofString "ABCDEFGHIJKLMNOPQRSTUVWXYZ")))
abbrev s_is_letter_s : Stmt := top 10
theorem sc_is_letter_s : FnScope ["thing"] ["thing"] (defScope s_is_letter_s) := ⟨rfl, rfl, rfl, by decide +kernel, rfl, by decide +kernel, by decide +kernel⟩
def r_is_letter_s : List Dt → Sum Cell Xc → Prop := fun ds a => ∃ (v_thing : Str), ds = [(Dt.str v_thing)] ∧ a = .inl (.fz (Dt.bl (m_is_letter_s v_thing)))
section
variable {P : Program} {w : World} {K : PySem.W.Frag} {mg : Str → Option Value} {base : Heap}
theorem run_is_letter_s (T : Txt K mg)  {f : Addr} {cdv : Value} {A : Around} {outer : List PySem.Env} {s : Shared} {H : Hp} {E : XK} (hr : Room 0 (A.deeper (PyProof.Rows.envOfC "is_letter" (defScope s_is_letter_s) s.heap.objs.size f cdv))) (v_thing : Str) :
    Run (cxOf (L2.CX P w) P w K mg base ["thing"] "is_letter" (defScope s_is_letter_s) f cdv A outer s H E) K (wE E) sv0 (defBody s_is_letter_s) (start0 ["thing"] [(Dt.str v_thing)]) (.rt (.fz (Dt.bl (m_is_letter_s v_thing))) none) := by
  exact run_ret (ex_andT (ex_isTy (n := "str") (fun _ => rfl) (xv 0 rfl) rfl (by decide +kernel : kitB "str" "str" = some true) (fun _ => rfl) (fun _ => T.n_isinstance) (fun _ => rfl) (fun _ => T.n_str) (by decide +kernel)) (ex_and (ex_cmp says_eqI (ex_lenS (xv 0 rfl) (fun _ => rfl) (fun _ => T.n_len)) ex_int) (fun hb2 => (ex_one (ex_cmp says_inS (xv 0 rfl) (ex_gstr (fun _ => rfl) (fun _ => T.g_GREAT) (hz := by decide +kernel)))))))
theorem ok_is_letter_s (T : Txt K mg)  {f : Addr} {fd : FuncData} (F : FunD K "is_letter" "is_letter" (defArgs s_is_letter_s) (defBody s_is_letter_s) (defScope s_is_letter_s) [] [] f fd) : FnOk P w K mg base (L2.CX P w) 1 f fd ["thing"] (spR K 1 r_is_letter_s) :=
  fnOk_mk F sc_is_letter_s (fun cdv A outer s H E ds a hr hR hn => by
    obtain ⟨v_thing, rfl, rfl⟩ := hR
    exact ⟨_, .rt _, run_is_letter_s T  hr v_thing⟩)
theorem mk_is_letter_s (T : Txt K mg)  {f : Addr} {fd : FuncData} (F : FunD K "is_letter" "is_letter" (defArgs s_is_letter_s) (defBody s_is_letter_s) (defScope s_is_letter_s) [] [] f fd) {x : Str} (gf : mg x = some (.ref f)) : Callee P w K mg base x 1 1 r_is_letter_s :=
  ⟨f, fd, ["thing"], ok_is_letter_s T  F, gf, F.kp, FunD.bindsN F fun _ _ _ _ _ _ us hl => match us, hl with | [_], _ => rfl⟩
end
/-! places_of -/
def m_places_of_1  (v_st : (Unit)) (v_it : Str) : Step (Unit) (Option (List Str)) := (cond ((!(m_is_name_s v_it)) && (!(m_is_letter_s v_it))) (.fin none) (.nx ()))
def m_places_of_2 (v_places : (List Str)) (v_st : (Unit)) : (Option (List Str)) := (some v_places)
def m_places_of_3  (v_places : (List Str)) : (Option (List Str)) := (cond (decide ((2 : Int) < ((v_places).length : Int))) none (loop (m_places_of_1) (fun y => y) (m_places_of_2 v_places) v_places ()))
def m_places_of (v_text : Str) : (Option (List Str)) := (cond (v_text == (Str.ofString "")) (some []) (cond (!(Txt.endswith v_text (Str.ofString ")"))) none (m_places_of_3 (Txt.split (cutS v_text none (some (-(1 : Int)))) (Str.ofString ",")))))
abbrev s_places_of : Stmt := top 11
theorem sc_places_of : FnScope ["text", "places", "place"] ["text"] (defScope s_places_of) := ⟨rfl, rfl, rfl, by decide +kernel, rfl, by decide +kernel, by decide +kernel⟩
def r_places_of : List Dt → Sum Cell Xc → Prop := fun ds a => ∃ (v_text : Str), ds = [(Dt.str v_text)] ∧ a = .inl (.fz (e8_opt (m_places_of v_text)))
section
variable {P : Program} {w : World} {K : PySem.W.Frag} {mg : Str → Option Value} {base : Heap}
theorem run_places_of (T : Txt K mg) (c_is_letter_s : Callee P w K mg base "is_letter" 1 1 r_is_letter_s) (c_is_name_s : Callee P w K mg base "is_name" 2 1 r_is_name_s) {f : Addr} {cdv : Value} {A : Around} {outer : List PySem.Env} {s : Shared} {H : Hp} {E : XK} (hr : Room 2 (A.deeper (PyProof.Rows.envOfC "places_of" (defScope s_places_of) s.heap.objs.size f cdv))) (v_text : Str) :
    Run (cxOf (L2.CX P w) P w K mg base ["text", "places", "place"] "places_of" (defScope s_places_of) f cdv A outer s H E) K (wE E) sv0 (defBody s_places_of) (start0 ["text", "places", "place"] [(Dt.str v_text)]) (.rt (.fz (e8_opt (m_places_of v_text))) none) := by
  refine run_gd (fun x : (Option (List Str)) => .rt (.fz (e8_opt x)) none) (some []) (cond (!(Txt.endswith v_text (Str.ofString ")"))) none (m_places_of_3 (Txt.split (cutS v_text none (some (-(1 : Int)))) (Str.ofString ",")))) (fun _ h => nomatch h) (eb_cmp says_eqS (xv 0 rfl) (ex_str (h := by decide +kernel))) (fun hb => ?_) (fun hb => ?_)
  · exact run_ret (ex_tup ea_nil (Nat.le_of_ble_eq_true rfl))
  · refine run_gd (fun x : (Option (List Str)) => .rt (.fz (e8_opt x)) none) none (m_places_of_3 (Txt.split (cutS v_text none (some (-(1 : Int)))) (Str.ofString ","))) (fun _ h => nomatch h) (eb_not (eb_val (x_endswith (xv 0 rfl) (ex_str (h := by decide +kernel))))) (fun hb => ?_) (fun hb => ?_)
    · exact run_ret ex_non
    · refine run_asgE (i := 1) (Txt.split (cutS v_text none (some (-(1 : Int)))) (Str.ofString ",")) (fun v_places => .fz (e0_list v_places)) (fun _ => _) (fun v_places => [Zf (Dt.str v_text), Zf (e0_list v_places), none]) (fun v_places => .rt (.fz (e8_opt (m_places_of_3 v_places))) none) (fun _ => True) (EX.ev (EN.frz (x_split (ex_sliceS (xv 0 rfl) eo_none (eo_some (ex_neg ex_int))) (ex_str (h := by decide +kernel)) (by decide +kernel)) rfl)) trivial sc_places_of.nd (fun _ => rfl) (fun v_places _ => ?_)
      refine run_gd (fun x : (Option (List Str)) => .rt (.fz (e8_opt x)) none) none (loop (m_places_of_1) (fun y => y) (m_places_of_2 v_places) v_places ()) (fun _ h => nomatch h) (eb_cmp says_gt (x_len Dt.str (fun _ => rfl) (EX.esL (xv 1 rfl)) (fun _ => rfl) (fun _ => T.n_len)) ex_int) (fun hb => ?_) (fun hb => ?_)
      · exact run_ret ex_non
      · refine run_forQ (js := [2]) (P := (fun _ _ => True)) (Q := (fun _ => True)) (s0 := ()) Dt.str (fun v_st : (Unit) => [Zf (Dt.str v_text), Zf (e0_list v_places), none]) (fun (v_st : (Unit)) (v_it : Str) => [Zf (Dt.str v_text), Zf (e0_list v_places), Zf (Dt.str v_it)]) (fun x : (Option (List Str)) => .rt (.fz (e8_opt x)) none) (m_places_of_1) (fun y => y) (m_places_of_2 v_places) (passes_of rfl) rfl (pg_name (i := 2) sc_places_of.nd rfl (by first | exact Or.inl rfl | exact Or.inr rfl)) rfl (fun _ => trivial) (src_list rfl (xv 1 rfl)) (.keep (.keep (.keep .nil))) (fun _ _ => (bd_name (Nat.blt_eq.mp rfl))) (LoopAll.all (fun _ _ => trivial) (fun _ => trivial) _ _) (fun v_st v_it hm _ => ?_) (fun v_st _ => ?_)
        · refine run_gd (fun x : (Step (Unit) (Option (List Str))) => x.out (fun v_st : (Unit) => [Zf (Dt.str v_text), Zf (e0_list v_places), none]) (fun x : (Option (List Str)) => .rt (.fz (e8_opt x)) none)) (.fin none) (.nx ()) (fun _ h => nomatch h) (eb_w (ebw_and (eb_not (eb_val (ex_call c_is_name_s (fun _ => ⟨rfl, rfl, rfl, rfl, rfl⟩) (fun _ => hr.mono (by decide)) (fun _ => rfl) (ea_cons (xv 2 rfl) ea_nil) rfl ⟨v_it, rfl, rfl⟩))) (fun hb1 => (ebw_and1 (eb_not (eb_val (ex_call c_is_letter_s (fun _ => ⟨rfl, rfl, rfl, rfl, rfl⟩) (fun _ => hr.mono (by decide)) (fun _ => rfl) (ea_cons (xv 2 rfl) ea_nil) rfl ⟨v_it, rfl, rfl⟩))))))) (fun hb => ?_) (fun hb => ?_)
          · exact run_ret ex_non
          · exact run_end (.keep (.keep (.drop .nil)))
        · exact run_ret (ex_tupL (fun _ => rfl) (EX.esL (xv 1 rfl)) (fun _ => rfl) (fun _ => T.n_tuple))
theorem ok_places_of (T : Txt K mg) (c_is_letter_s : Callee P w K mg base "is_letter" 1 1 r_is_letter_s) (c_is_name_s : Callee P w K mg base "is_name" 2 1 r_is_name_s) {f : Addr} {fd : FuncData} (F : FunD K "places_of" "places_of" (defArgs s_places_of) (defBody s_places_of) (defScope s_places_of) [] [] f fd) : FnOk P w K mg base (L2.CX P w) 3 f fd ["text"] (spR K 1 r_places_of) :=
  fnOk_mk F sc_places_of (fun cdv A outer s H E ds a hr hR hn => by
    obtain ⟨v_text, rfl, rfl⟩ := hR
    exact ⟨_, .rt _, run_places_of T c_is_letter_s c_is_name_s hr v_text⟩)
theorem mk_places_of (T : Txt K mg) (c_is_letter_s : Callee P w K mg base "is_letter" 1 1 r_is_letter_s) (c_is_name_s : Callee P w K mg base "is_name" 2 1 r_is_name_s) {f : Addr} {fd : FuncData} (F : FunD K "places_of" "places_of" (defArgs s_places_of) (defBody s_places_of) (defScope s_places_of) [] [] f fd) {x : Str} (gf : mg x = some (.ref f)) : Callee P w K mg base x 3 1 r_places_of :=
  ⟨f, fd, ["text"], ok_places_of T c_is_letter_s c_is_name_s F, gf, F.kp, FunD.bindsN F fun _ _ _ _ _ _ us hl => match us, hl with | [_], _ => rfl⟩
end
/-! parts_of -/
def m_parts_of_2  (v_rest : Str) : (Str × Str) := ((Str.ofString "-"), v_rest)
def m_parts_of_3 (v_st : (Str × Str)) (v_parts : (Str × Str × Str)) (v_places : (Option (List Str))) : (Str × Str × (List Str)) := (cond ((!(m_is_name_s v_parts.1)) || ((isNo v_places) || (!((v_parts.2.1 == (Str.ofString "")) == (v_parts.2.2 == (Str.ofString "")))))) (default : (Str × Str × (List Str))) (v_st.1, v_parts.1, (Option.getD v_places default)))
def k_parts_of_3 (v_st : (Str × Str)) (v_parts : (Str × Str × Str)) (v_places : (Option (List Str))) : Prop := ((((!(m_is_name_s v_parts.1)) || ((isNo v_places) || (!((v_parts.2.1 == (Str.ofString "")) == (v_parts.2.2 == (Str.ofString "")))))) = true → False) ∧ (((!(m_is_name_s v_parts.1)) || ((isNo v_places) || (!((v_parts.2.1 == (Str.ofString "")) == (v_parts.2.2 == (Str.ofString "")))))) = false → (isNo v_places = false)))
def m_parts_of_4 (v_st : (Str × Str)) (v_parts : (Str × Str × Str)) : (Str × Str × (List Str)) := (m_parts_of_3 v_st v_parts (m_places_of v_parts.2.2))
def k_parts_of_4 (v_st : (Str × Str)) (v_parts : (Str × Str × Str)) : Prop := (k_parts_of_3 v_st v_parts (m_places_of v_parts.2.2))
def m_parts_of_5  (v_st : (Str × Str)) : (Str × Str × (List Str)) := (m_parts_of_4 v_st (Txt.partition v_st.2 (Str.ofString "(")))
def k_parts_of_5  (v_st : (Str × Str)) : Prop := (k_parts_of_4 v_st (Txt.partition v_st.2 (Str.ofString "(")))
def m_parts_of (v_statement : Str) : (Str × Str × (List Str)) := (m_parts_of_5 (cond (Txt.startswith v_statement (Str.ofString "-")) (m_parts_of_2 (cutS v_statement (some (1 : Int)) none)) ((Str.ofString ""), v_statement)))
def k_parts_of (v_statement : Str) : Prop := (k_parts_of_5 (cond (Txt.startswith v_statement (Str.ofString "-")) (m_parts_of_2 (cutS v_statement (some (1 : Int)) none)) ((Str.ofString ""), v_statement)))
abbrev s_parts_of : Stmt := top 12
theorem sc_parts_of : FnScope ["statement", "side", "rest", "places", "name", "bracket", "tail"] ["statement"] (defScope s_parts_of) := ⟨rfl, rfl, rfl, by decide +kernel, rfl, by decide +kernel, by decide +kernel⟩
def r_parts_of : List Dt → Sum Cell Xc → Prop := fun ds a => ∃ (v_statement : Str), k_parts_of v_statement ∧ ds = [(Dt.str v_statement)] ∧ a = .inl (.fz (e7_tup (m_parts_of v_statement)))
section
variable {P : Program} {w : World} {K : PySem.W.Frag} {mg : Str → Option Value} {base : Heap}
theorem run_parts_of (T : Txt K mg) (c_is_name_s : Callee P w K mg base "is_name" 2 1 r_is_name_s) (c_places_of : Callee P w K mg base "places_of" 3 1 r_places_of) {f : Addr} {cdv : Value} {A : Around} {outer : List PySem.Env} {s : Shared} {H : Hp} {E : XK} (hr : Room 3 (A.deeper (PyProof.Rows.envOfC "parts_of" (defScope s_parts_of) s.heap.objs.size f cdv))) (v_statement : Str) (hk : k_parts_of v_statement) :
    Run (cxOf (L2.CX P w) P w K mg base ["statement", "side", "rest", "places", "name", "bracket", "tail"] "parts_of" (defScope s_parts_of) f cdv A outer s H E) K (wE E) sv0 (defBody s_parts_of) (start0 ["statement", "side", "rest", "places", "name", "bracket", "tail"] [(Dt.str v_statement)]) (.rt (.fz (e7_tup (m_parts_of v_statement))) none) := by
  have h11 := hk
  refine run_skip (eb_not (b := true) (eb_val (ex_isTy (n := "str") (fun _ => rfl) (xv 0 rfl) rfl (by decide +kernel : kitB "str" "str" = some true) (fun _ => rfl) (fun _ => T.n_isinstance) (fun _ => rfl) (fun _ => T.n_str) (by decide +kernel)))) ?_
  have hk := h11
  have h10 := hk
  refine run_asgQ (i := 1) (Gk := [Zf (Dt.str v_statement), Zf (Dt.str (Str.ofString "")), none, none, none, none, none]) (EX.ev (ex_str (h := by decide +kernel))) sc_parts_of.nd rfl ?_
  have hk := h10
  have h9 := hk
  refine run_asgQ (i := 2) (Gk := [Zf (Dt.str v_statement), Zf (Dt.str (Str.ofString "")), Zf (Dt.str v_statement), none, none, none, none]) (EX.ev (xv 0 rfl)) sc_parts_of.nd rfl ?_
  have hk := h9
  have h8 := hk
  refine run_ifP (s1 := (m_parts_of_2 (cutS v_statement (some (1 : Int)) none))) (s2 := ((Str.ofString ""), v_statement)) (fun v_st : (Str × Str) => [Zf (Dt.str v_statement), Zf (Dt.str v_st.1), Zf (Dt.str v_st.2), none, none, none, none]) (fun v_st => .rt (.fz (e7_tup (m_parts_of_5 v_st))) none) (k_parts_of_5) (eb_val (x_startswith (xv 0 rfl) (ex_str (h := by decide +kernel)))) h8 (fun hb => ?_) (fun hb => ?_) (fun v_st hk => ?_)
  · refine run_asgQ (i := 1) (Gk := [Zf (Dt.str v_statement), Zf (Dt.str (Str.ofString "-")), Zf (Dt.str v_statement), none, none, none, none]) (EX.ev (ex_str (h := by decide +kernel))) sc_parts_of.nd rfl ?_
    refine run_asgE (i := 2) (cutS v_statement (some (1 : Int)) none) (fun v_rest => .fz (Dt.str v_rest)) (fun _ => _) (fun v_rest => [Zf (Dt.str v_statement), Zf (Dt.str (Str.ofString "-")), Zf (Dt.str v_rest), none, none, none, none]) (fun v_rest => .nx ((fun v_st : (Str × Str) => [Zf (Dt.str v_statement), Zf (Dt.str v_st.1), Zf (Dt.str v_st.2), none, none, none, none]) (m_parts_of_2 v_rest))) (fun _ => True) (EX.ev (ex_sliceS (xv 0 rfl) (eo_some ex_int) eo_none)) trivial sc_parts_of.nd (fun _ => rfl) (fun v_rest _ => ?_)
    exact run_end (.keep (.keep (.keep (.keep (.keep (.keep (.keep .nil)))))))
  · exact run_end (.keep (.keep (.keep (.keep (.keep (.keep (.keep .nil)))))))
  · have h7 := hk
    refine run_asgTP (js := [4, 5, 6]) (v := (Txt.partition v_st.2 (Str.ofString "("))) e9_tup (fun v_parts => .rt (.fz (e7_tup (m_parts_of_4 v_st v_parts))) none) (k_parts_of_4 v_st) (fun v_parts => [Zf (Dt.str v_statement), Zf (Dt.str v_st.1), Zf (Dt.str v_st.2), none, Zf (Dt.str v_parts.1), Zf (Dt.str v_parts.2.1), Zf (Dt.str v_parts.2.2)]) (x_partition (xv 2 rfl) (ex_str (h := by decide +kernel)) (by decide +kernel)) h7 (pg_tup rfl (pgs_cons (pg_name (i := 4) sc_parts_of.nd rfl (by first | exact Or.inl rfl | exact Or.inr rfl)) (pgs_cons (pg_name (i := 5) sc_parts_of.nd rfl (by first | exact Or.inl rfl | exact Or.inr rfl)) (pgs_cons (pg_name (i := 6) sc_parts_of.nd rfl (by first | exact Or.inl rfl | exact Or.inr rfl)) pgs_nil)))) (fun _ => bd_tup (bdl_cons (bd_name (Nat.blt_eq.mp rfl)) (bdl_cons (bd_name (Nat.blt_eq.mp rfl)) (bdl_cons (bd_name (Nat.blt_eq.mp rfl)) bdl_nil))) rfl) rfl (fun v_parts hk => ?_)
    have h6 := hk
    refine run_asgE (i := 3) (m_places_of v_parts.2.2) (fun v_places => .fz (e8_opt v_places)) (fun _ => _) (fun v_places => [Zf (Dt.str v_statement), Zf (Dt.str v_st.1), Zf (Dt.str v_st.2), Zf (e8_opt v_places), Zf (Dt.str v_parts.1), Zf (Dt.str v_parts.2.1), Zf (Dt.str v_parts.2.2)]) (fun v_places => .rt (.fz (e7_tup (m_parts_of_3 v_st v_parts v_places))) none) (k_parts_of_3 v_st v_parts) (EX.ev (ex_call c_places_of (fun _ => ⟨rfl, rfl, rfl, rfl, rfl⟩) (fun _ => hr.mono (by decide)) (fun _ => rfl) (ea_cons (xv 6 rfl) ea_nil) rfl ⟨v_parts.2.2, rfl, rfl⟩)) h6 sc_parts_of.nd (fun _ => rfl) (fun v_places hk => ?_)
    obtain ⟨h2, h3⟩ := hk
    refine run_gd (fun x : (Str × Str × (List Str)) => .rt (.fz (e7_tup x)) none) (default : (Str × Str × (List Str))) (v_st.1, v_parts.1, (Option.getD v_places default)) (fun _ h => nomatch h) (eb_w (ebw_or (eb_not (eb_val (ex_call c_is_name_s (fun _ => ⟨rfl, rfl, rfl, rfl, rfl⟩) (fun _ => hr.mono (by decide)) (fun _ => rfl) (ea_cons (xv 4 rfl) ea_nil) rfl ⟨v_parts.1, rfl, rfl⟩))) (fun hb4 => (ebw_or (eb_cmp (says_isO e6_vtup (by intro _; rfl)) (xv 3 rfl) ex_non) (fun hb5 => (ebw_or1 (eb_cmp says_neB (ex_cmp says_eqS (xv 5 rfl) (ex_str (h := by decide +kernel))) (ex_cmp says_eqS (xv 6 rfl) (ex_str (h := by decide +kernel)))))))))) (fun hb => ?_) (fun hb => ?_)
    · have hk := h2 hb
      exact run_no hk
    · have hk := h3 hb
      have h1 := hk
      exact run_ret (ex_tup (ea_cons (xv 1 rfl) (ea_cons (xv 4 rfl) (ea_cons (x_get e6_vtup (xv 3 rfl) h1) ea_nil))) (Nat.le_of_ble_eq_true rfl))
theorem ok_parts_of (T : Txt K mg) (c_is_name_s : Callee P w K mg base "is_name" 2 1 r_is_name_s) (c_places_of : Callee P w K mg base "places_of" 3 1 r_places_of) {f : Addr} {fd : FuncData} (F : FunD K "parts_of" "parts_of" (defArgs s_parts_of) (defBody s_parts_of) (defScope s_parts_of) [] [] f fd) : FnOk P w K mg base (L2.CX P w) 4 f fd ["statement"] (spR K 1 r_parts_of) :=
  fnOk_mk F sc_parts_of (fun cdv A outer s H E ds a hr hR hn => by
    obtain ⟨v_statement, hk, rfl, rfl⟩ := hR
    exact ⟨_, .rt _, run_parts_of T c_is_name_s c_places_of hr v_statement hk⟩)
theorem mk_parts_of (T : Txt K mg) (c_is_name_s : Callee P w K mg base "is_name" 2 1 r_is_name_s) (c_places_of : Callee P w K mg base "places_of" 3 1 r_places_of) {f : Addr} {fd : FuncData} (F : FunD K "parts_of" "parts_of" (defArgs s_parts_of) (defBody s_parts_of) (defScope s_parts_of) [] [] f fd) {x : Str} (gf : mg x = some (.ref f)) : Callee P w K mg base x 4 1 r_parts_of :=
  ⟨f, fd, ["statement"], ok_parts_of T c_is_name_s c_places_of F, gf, F.kp, FunD.bindsN F fun _ _ _ _ _ _ us hl => match us, hl with | [_], _ => rfl⟩
end
/-! letters_of -/
def m_letters_of_1  (v_st_1 : ((List Str))) : (Step ((List Str)) (List Str)) := (.nx v_st_1)
def m_letters_of_2  (v_st : ((List Str))) (v_it : Str) : Step ((List Str)) (List Str) := (m_letters_of_1 (cond ((m_is_letter_s v_it) && (!(List.elem v_it v_st))) (v_st ++ [v_it]) v_st))
def k_letters_of_2  (v_st : ((List Str))) (v_it : Str) : Prop := (((m_is_letter_s v_it) && (!(List.elem v_it v_st))) = true → ((v_st).length + 1 ≤ big))
def m_letters_of_3  (v_st : ((List Str))) : (List Str) := v_st
def m_letters_of_4 (v_statement : Str) (v_found : (List Str)) : (List Str) := (loop (m_letters_of_2) (fun y => y) (m_letters_of_3) (m_parts_of v_statement).2.2 v_found)
def k_letters_of_4 (v_statement : Str) (v_found : (List Str)) : Prop := ((k_parts_of v_statement) ∧ (LoopAll (k_letters_of_2) (fun _ => True) (m_letters_of_2) (m_parts_of v_statement).2.2 v_found))
def m_letters_of (v_statement : Str) : (List Str) := (m_letters_of_4 v_statement [])
def k_letters_of (v_statement : Str) : Prop := (k_letters_of_4 v_statement [])
abbrev s_letters_of : Stmt := top 14
theorem sc_letters_of : FnScope ["statement", "found", "place"] ["statement"] (defScope s_letters_of) := ⟨rfl, rfl, rfl, by decide +kernel, rfl, by decide +kernel, by decide +kernel⟩
def r_letters_of : List Dt → Sum Cell Xc → Prop := fun ds a => ∃ (v_statement : Str), k_letters_of v_statement ∧ ds = [(Dt.str v_statement)] ∧ a = .inl (.ol (List.map Dt.str (m_letters_of v_statement)))
section
variable {P : Program} {w : World} {K : PySem.W.Frag} {mg : Str → Option Value} {base : Heap}
theorem run_letters_of (T : Txt K mg) (c_is_letter_s : Callee P w K mg base "is_letter" 1 1 r_is_letter_s) (c_parts_of : Callee P w K mg base "parts_of" 4 1 r_parts_of) {f : Addr} {cdv : Value} {A : Around} {outer : List PySem.Env} {s : Shared} {H : Hp} {E : XK} (hr : Room 4 (A.deeper (PyProof.Rows.envOfC "letters_of" (defScope s_letters_of) s.heap.objs.size f cdv))) (v_statement : Str) (hk : k_letters_of v_statement) :
    Run (cxOf (L2.CX P w) P w K mg base ["statement", "found", "place"] "letters_of" (defScope s_letters_of) f cdv A outer s H E) K (wE E) sv0 (defBody s_letters_of) (start0 ["statement", "found", "place"] [(Dt.str v_statement)]) (.rt (.ol (List.map Dt.str (m_letters_of v_statement))) none) := by
  have h7 := hk
  refine run_asgE (i := 1) [] (fun v_found => .ol (List.map Dt.str v_found)) (fun _ => _) (fun v_found => [Zf (Dt.str v_statement), some (.ol (List.map Dt.str v_found)), none]) (fun v_found => .rt (.ol (List.map Dt.str (m_letters_of_4 v_statement v_found))) none) (k_letters_of_4 v_statement) (EN.ev (en_lst ea_nil (Nat.le_of_ble_eq_true rfl))) h7 sc_letters_of.nd (fun _ => rfl) (fun v_found hk => ?_)
  obtain ⟨h5, h6⟩ := hk
  refine run_forQ (js := [2]) (P := (k_letters_of_2)) (Q := (fun _ => True)) (s0 := v_found) Dt.str (fun v_st : ((List Str)) => [Zf (Dt.str v_statement), some (.ol (List.map Dt.str v_st)), none]) (fun (v_st : ((List Str))) (v_it : Str) => [Zf (Dt.str v_statement), some (.ol (List.map Dt.str v_st)), Zf (Dt.str v_it)]) (fun x : (List Str) => .rt (.ol (List.map Dt.str x)) none) (m_letters_of_2) (fun y => y) (m_letters_of_3) (passes_of rfl) rfl (pg_name (i := 2) sc_letters_of.nd rfl (by first | exact Or.inl rfl | exact Or.inr rfl)) rfl (fun _ => trivial) (src_tup rfl (x_ixT (d := (e6_vtup (m_parts_of v_statement).2.2)) (fun _ => rfl) (EX.esT (ex_call c_parts_of (fun _ => ⟨rfl, rfl, rfl, rfl, rfl⟩) (fun _ => hr.mono (by decide)) (fun _ => rfl) (ea_cons (xv 0 rfl) ea_nil) rfl ⟨v_statement, h5, rfl, rfl⟩)) ex_int)) (.keep (.keep (.keep .nil))) (fun _ _ => (bd_name (Nat.blt_eq.mp rfl))) h6 (fun v_st v_it hm hk => ?_) (fun v_st _ => ?_)
  · have h3 := hk
    refine run_ifP (s1 := (v_st ++ [v_it])) (s2 := v_st) (fun v_st_1 : ((List Str)) => [Zf (Dt.str v_statement), some (.ol (List.map Dt.str v_st_1)), Zf (Dt.str v_it)]) (fun v_st_1 => (Step.out (fun v_st : ((List Str)) => [Zf (Dt.str v_statement), some (.ol (List.map Dt.str v_st)), none]) (fun x : (List Str) => .rt (.ol (List.map Dt.str x)) none) (m_letters_of_1 v_st_1))) (fun _ => True) (eb_w (ebw_and (eb_val (ex_call c_is_letter_s (fun _ => ⟨rfl, rfl, rfl, rfl, rfl⟩) (fun _ => hr.mono (by decide)) (fun _ => rfl) (ea_cons (xv 2 rfl) ea_nil) rfl ⟨v_it, rfl, rfl⟩)) (fun hb4 => (ebw_and1 (xb_niS (fun _ => rfl) (xv 2 rfl) (EP.es (pp 1 rfl) rfl)))))) trivial (fun hb => ?_) (fun hb => ?_) (fun v_st_1 _ => ?_)
    · have hk := h3 hb
      have h2 := hk
      refine run_append (i := 1) (π := []) (xs := v_st) (y := v_it) (G' := [Zf (Dt.str v_statement), some (.ol (List.map Dt.str (v_st ++ [v_it]))), Zf (Dt.str v_it)]) Dt.str rfl (pp 1 rfl) rfl (xv 2 rfl) h2 rfl ?_
      exact run_end (.keep (.keep (.keep .nil)))
    · exact run_end (.keep (.keep (.keep .nil)))
    · exact run_end (.keep (.keep (.drop .nil)))
  · exact run_retV (i := 1) rfl rfl (by first | exact Or.inl rfl | exact Or.inr (Or.inl rfl))
theorem ok_letters_of (T : Txt K mg) (c_is_letter_s : Callee P w K mg base "is_letter" 1 1 r_is_letter_s) (c_parts_of : Callee P w K mg base "parts_of" 4 1 r_parts_of) {f : Addr} {fd : FuncData} (F : FunD K "letters_of" "letters_of" (defArgs s_letters_of) (defBody s_letters_of) (defScope s_letters_of) [] [] f fd) : FnOk P w K mg base (L2.CX P w) 5 f fd ["statement"] (spR K 1 r_letters_of) :=
  fnOk_mk F sc_letters_of (fun cdv A outer s H E ds a hr hR hn => by
    obtain ⟨v_statement, hk, rfl, rfl⟩ := hR
    exact ⟨_, .rt _, run_letters_of T c_is_letter_s c_parts_of hr v_statement hk⟩)
theorem mk_letters_of (T : Txt K mg) (c_is_letter_s : Callee P w K mg base "is_letter" 1 1 r_is_letter_s) (c_parts_of : Callee P w K mg base "parts_of" 4 1 r_parts_of) {f : Addr} {fd : FuncData} (F : FunD K "letters_of" "letters_of" (defArgs s_letters_of) (defBody s_letters_of) (defScope s_letters_of) [] [] f fd) {x : Str} (gf : mg x = some (.ref f)) : Callee P w K mg base x 5 1 r_letters_of :=
  ⟨f, fd, ["statement"], ok_letters_of T c_is_letter_s c_parts_of F, gf, F.kp, FunD.bindsN F fun _ _ _ _ _ _ us hl => match us, hl with | [_], _ => rfl⟩
end
/-! Rule_letters -/
def m_Rule_letters_1  (v_st_2 : ((List Str))) : (Step ((List Str)) (List Str)) := (.nx v_st_2)
def m_Rule_letters_2  (v_st_1 : ((List Str))) (v_it_1 : Str) : Step ((List Str)) (List Str) := (m_Rule_letters_1 (cond (!(List.elem v_it_1 v_st_1)) (v_st_1 ++ [v_it_1]) v_st_1))
def k_Rule_letters_2  (v_st_1 : ((List Str))) (v_it_1 : Str) : Prop := ((!(List.elem v_it_1 v_st_1)) = true → ((v_st_1).length + 1 ≤ big))
def m_Rule_letters_3  (v_st_1 : ((List Str))) : (Step ((List Str)) (List Str)) := (.nx v_st_1)
def m_Rule_letters_4  (v_st : ((List Str))) (v_it : Str) : Step ((List Str)) (List Str) := (loop (m_Rule_letters_2) (fun y => Step.fin y) (m_Rule_letters_3) (m_letters_of v_it) v_st)
def k_Rule_letters_4  (v_st : ((List Str))) (v_it : Str) : Prop := ((k_letters_of v_it) ∧ (LoopAll (k_Rule_letters_2) (fun _ => True) (m_Rule_letters_2) (m_letters_of v_it) v_st))
def m_Rule_letters_5  (v_st : ((List Str))) : (List Str) := v_st
def m_Rule_letters_6 (v_self : (Nat × Str × Str × (List Str))) (v_found : (List Str)) : (List Str) := (loop (m_Rule_letters_4) (fun y => y) (m_Rule_letters_5) ([v_self.2.2.1] ++ v_self.2.2.2) v_found)
def k_Rule_letters_6 (v_self : (Nat × Str × Str × (List Str))) (v_found : (List Str)) : Prop := ((([v_self.2.2.1]).length + (v_self.2.2.2).length ≤ big) ∧ (LoopAll (k_Rule_letters_4) (fun _ => True) (m_Rule_letters_4) ([v_self.2.2.1] ++ v_self.2.2.2) v_found))
def m_Rule_letters (v_self : (Nat × Str × Str × (List Str))) : (List Str) := (m_Rule_letters_6 v_self [])
def k_Rule_letters (v_self : (Nat × Str × Str × (List Str))) : Prop := (k_Rule_letters_6 v_self [])
abbrev s_Rule_letters : Stmt := sub (top 18) 4
theorem sc_Rule_letters : FnScope ["self", "found", "statement", "letter"] ["self"] (defScope s_Rule_letters) := ⟨rfl, rfl, rfl, by decide +kernel, rfl, by decide +kernel, by decide +kernel⟩
def r_Rule_letters : List Dt → Sum Cell Xc → Prop := fun ds a => ∃ (v_self : (Nat × Str × Str × (List Str))), k_Rule_letters v_self ∧ ds = [(enc_Rule v_self)] ∧ a = .inl (.ol (List.map Dt.str (m_Rule_letters v_self)))
section
variable {P : Program} {w : World} {K : PySem.W.Frag} {mg : Str → Option Value} {base : Heap}
theorem run_Rule_letters (T : Txt K mg) (c_letters_of : Callee P w K mg base "letters_of" 5 1 r_letters_of) {f : Addr} {cdv : Value} {A : Around} {outer : List PySem.Env} {s : Shared} {H : Hp} {E : XK} (hr : Room 5 (A.deeper (PyProof.Rows.envOfC "Rule.letters" (defScope s_Rule_letters) s.heap.objs.size f cdv))) (v_self : (Nat × Str × Str × (List Str))) (hk : k_Rule_letters v_self) :
    Run (cxOf (L2.CX P w) P w K mg base ["self", "found", "statement", "letter"] "Rule.letters" (defScope s_Rule_letters) f cdv A outer s H E) K (wE E) sv0 (defBody s_Rule_letters) (start0 ["self", "found", "statement", "letter"] [(enc_Rule v_self)]) (.rt (.ol (List.map Dt.str (m_Rule_letters v_self))) none) := by
  have h8 := hk
  refine run_asgE (i := 1) [] (fun v_found => .ol (List.map Dt.str v_found)) (fun _ => _) (fun v_found => [Zf (enc_Rule v_self), some (.ol (List.map Dt.str v_found)), none, none]) (fun v_found => .rt (.ol (List.map Dt.str (m_Rule_letters_6 v_self v_found))) none) (k_Rule_letters_6 v_self) (EN.ev (en_lst ea_nil (Nat.le_of_ble_eq_true rfl))) h8 sc_Rule_letters.nd (fun _ => rfl) (fun v_found hk => ?_)
  obtain ⟨h6, h7⟩ := hk
  refine run_forQ (js := [2]) (P := (k_Rule_letters_4)) (Q := (fun _ => True)) (s0 := v_found) Dt.str (fun v_st : ((List Str)) => [Zf (enc_Rule v_self), some (.ol (List.map Dt.str v_st)), none, none]) (fun (v_st : ((List Str))) (v_it : Str) => [Zf (enc_Rule v_self), some (.ol (List.map Dt.str v_st)), Zf (Dt.str v_it), none]) (fun x : (List Str) => .rt (.ol (List.map Dt.str x)) none) (m_Rule_letters_4) (fun y => y) (m_Rule_letters_5) (passes_of rfl) rfl (pg_name (i := 2) sc_Rule_letters.nd rfl (by first | exact Or.inl rfl | exact Or.inr rfl)) rfl (fun _ => trivial) (src_tup rfl (x_catT Dt.str (fun _ => rfl) (by simp) (ex_tup (ea_cons (ex_fld (fun _ => rfl) (T.cl_Rule _) (T.na_Rule_head _) (xv 0 rfl) (lk_Rule_head _)) ea_nil) (Nat.le_of_ble_eq_true rfl)) (ex_fld (fun _ => rfl) (T.cl_Rule _) (T.na_Rule_body _) (xv 0 rfl) (lk_Rule_body _)) h6)) (.keep (.keep (.keep (.keep .nil)))) (fun _ _ => (bd_name (Nat.blt_eq.mp rfl))) h7 (fun v_st v_it hm hk => ?_) (fun v_st _ => ?_)
  · obtain ⟨h4, h5⟩ := hk
    refine run_forQ (js := [3]) (P := (k_Rule_letters_2)) (Q := (fun _ => True)) (s0 := v_st) Dt.str (fun v_st_1 : ((List Str)) => [Zf (enc_Rule v_self), some (.ol (List.map Dt.str v_st_1)), Zf (Dt.str v_it), none]) (fun (v_st_1 : ((List Str))) (v_it_1 : Str) => [Zf (enc_Rule v_self), some (.ol (List.map Dt.str v_st_1)), Zf (Dt.str v_it), Zf (Dt.str v_it_1)]) (fun x : (Step ((List Str)) (List Str)) => x.out (fun v_st : ((List Str)) => [Zf (enc_Rule v_self), some (.ol (List.map Dt.str v_st)), none, none]) (fun x : (List Str) => .rt (.ol (List.map Dt.str x)) none)) (m_Rule_letters_2) (fun y => Step.fin y) (m_Rule_letters_3) (passes_of rfl) rfl (pg_name (i := 3) sc_Rule_letters.nd rfl (by first | exact Or.inl rfl | exact Or.inr rfl)) rfl (fun _ => trivial) (src_list rfl (EN.frz (en_call c_letters_of (fun _ => ⟨rfl, rfl, rfl, rfl, rfl⟩) (fun _ => hr.mono (by decide)) (fun _ => rfl) (ea_cons (xv 2 rfl) ea_nil) rfl ⟨v_it, h4, rfl, rfl⟩) rfl)) (.keep (.keep (.keep (.keep .nil)))) (fun _ _ => (bd_name (Nat.blt_eq.mp rfl))) h5 (fun v_st_1 v_it_1 hm hk => ?_) (fun v_st_1 _ => ?_)
    · have h3 := hk
      refine run_ifP (s1 := (v_st_1 ++ [v_it_1])) (s2 := v_st_1) (fun v_st_2 : ((List Str)) => [Zf (enc_Rule v_self), some (.ol (List.map Dt.str v_st_2)), Zf (Dt.str v_it), Zf (Dt.str v_it_1)]) (fun v_st_2 => (Step.out (fun v_st_1 : ((List Str)) => [Zf (enc_Rule v_self), some (.ol (List.map Dt.str v_st_1)), Zf (Dt.str v_it), none]) (fun x : (List Str) => .rt (.ol (List.map Dt.str x)) none) (m_Rule_letters_1 v_st_2))) (fun _ => True) (xb_niS (fun _ => rfl) (xv 3 rfl) (EP.es (pp 1 rfl) rfl)) trivial (fun hb => ?_) (fun hb => ?_) (fun v_st_2 _ => ?_)
      · have hk := h3 hb
        have h2 := hk
        refine run_append (i := 1) (π := []) (xs := v_st_1) (y := v_it_1) (G' := [Zf (enc_Rule v_self), some (.ol (List.map Dt.str (v_st_1 ++ [v_it_1]))), Zf (Dt.str v_it), Zf (Dt.str v_it_1)]) Dt.str rfl (pp 1 rfl) rfl (xv 3 rfl) h2 rfl ?_
        exact run_end (.keep (.keep (.keep (.keep .nil))))
      · exact run_end (.keep (.keep (.keep (.keep .nil))))
      · exact run_end (.keep (.keep (.keep (.drop .nil))))
    · exact run_end (.keep (.keep (.drop (.keep .nil))))
  · exact run_retV (i := 1) rfl rfl (by first | exact Or.inl rfl | exact Or.inr (Or.inl rfl))
theorem ok_Rule_letters (T : Txt K mg) (c_letters_of : Callee P w K mg base "letters_of" 5 1 r_letters_of) {f : Addr} {fd : FuncData} (F : FunD K "letters" "Rule.letters" (defArgs s_Rule_letters) (defBody s_Rule_letters) (defScope s_Rule_letters) [] [] f fd) : FnOk P w K mg base (L2.CX P w) 6 f fd ["self"] (spR K 1 r_Rule_letters) :=
  fnOk_mk F sc_Rule_letters (fun cdv A outer s H E ds a hr hR hn => by
    obtain ⟨v_self, hk, rfl, rfl⟩ := hR
    exact ⟨_, .rt _, run_Rule_letters T c_letters_of hr v_self hk⟩)
theorem mk_Rule_letters (T : Txt K mg) (c_letters_of : Callee P w K mg base "letters_of" 5 1 r_letters_of) {f : Addr} {fd : FuncData} (F : FunD K "letters" "Rule.letters" (defArgs s_Rule_letters) (defBody s_Rule_letters) (defScope s_Rule_letters) [] [] f fd) {C : Str} (M : Meth K (He.ga K C) "letters" f) : CalleeM P w K mg base C "letters" 6 1 r_Rule_letters :=
  ⟨f, fd, ["self"], ok_Rule_letters T c_letters_of F, M, FunD.bindsN F fun _ _ _ _ _ _ us hl => match us, hl with | [_], _ => rfl⟩
end
/-! d_Rule_letters -/
def m_d_Rule_letters (z : (Nat × Str × Str × (List Str))) : (List Str) := match z.1 with
  | 0 => m_Rule_letters z
  | 1 => m_Rule_letters z
  | 2 => m_Rule_letters z
  | _ => m_Rule_letters z
def k_d_Rule_letters (z : (Nat × Str × Str × (List Str))) : Prop := match z.1 with
  | 0 => k_Rule_letters z
  | 1 => k_Rule_letters z
  | 2 => k_Rule_letters z
  | _ => k_Rule_letters z
def rr_d_Rule_letters : Nat → List Dt → Sum Cell Xc → Prop := fun k => match k with
  | 0 => r_Rule_letters
  | 1 => r_Rule_letters
  | 2 => r_Rule_letters
  | _ => r_Rule_letters
theorem dd_d_Rule_letters (z : (Nat × Str × Str × (List Str))) (hk : k_d_Rule_letters z) : rr_d_Rule_letters z.1 [(enc_Rule z)] (.inl (.ol (List.map Dt.str (m_d_Rule_letters z)))) := by
  obtain ⟨k, z⟩ := z
  rcases k with _ | _ | _ | k
  · exact ⟨(0, z), hk, rfl, rfl⟩
  · exact ⟨(1, z), hk, rfl, rfl⟩
  · exact ⟨(2, z), hk, rfl, rfl⟩
  · exact ⟨(k + 3, z), hk, rfl, rfl⟩
/-! ways_of -/
def m_ways_of_1 (v_it : Str) (v_st_2 : ((List (List (Str × Str))))) (v_it_2 : Str) (v_more : (List (Str × Str))) : (Step ((List (List (Str × Str)))) (List (List (Str × Str)))) := (.nx (v_st_2 ++ [(puts v_more v_it v_it_2)]))
def k_ways_of_1 (v_it : Str) (v_st_2 : ((List (List (Str × Str))))) (v_it_2 : Str) (v_more : (List (Str × Str))) : Prop := (((v_more).length + 1 ≤ big) ∧ ((v_st_2).length + 1 ≤ big))
def m_ways_of_2 (v_it : Str) (v_it_1 : (List (Str × Str))) (v_st_2 : ((List (List (Str × Str))))) (v_it_2 : Str) : Step ((List (List (Str × Str)))) (List (List (Str × Str))) := (m_ways_of_1 v_it v_st_2 v_it_2 v_it_1)
def k_ways_of_2 (v_it : Str) (v_it_1 : (List (Str × Str))) (v_st_2 : ((List (List (Str × Str))))) (v_it_2 : Str) : Prop := (k_ways_of_1 v_it v_st_2 v_it_2 v_it_1)
def m_ways_of_3  (v_st_2 : ((List (List (Str × Str))))) : (Step ((List (List (Str × Str)))) (List (List (Str × Str)))) := (.nx v_st_2)
def m_ways_of_4 (v_things : (List Str)) (v_it : Str) (v_st_1 : ((List (List (Str × Str))))) (v_it_1 : (List (Str × Str))) : Step ((List (List (Str × Str)))) (List (List (Str × Str))) := (loop (m_ways_of_2 v_it v_it_1) (fun y => Step.fin y) (m_ways_of_3) v_things v_st_1)
def k_ways_of_4 (v_things : (List Str)) (v_it : Str) (v_st_1 : ((List (List (Str × Str))))) (v_it_1 : (List (Str × Str))) : Prop := (LoopAll (k_ways_of_2 v_it v_it_1) (fun _ => True) (m_ways_of_2 v_it v_it_1) v_things v_st_1)
def m_ways_of_5  (v_st_1 : ((List (List (Str × Str))))) : (Step ((List (List (Str × Str)))) (List (List (Str × Str)))) := (.nx v_st_1)
def m_ways_of_6 (v_things : (List Str)) (v_st : ((List (List (Str × Str))))) (v_it : Str) (v_longer : (List (List (Str × Str)))) : (Step ((List (List (Str × Str)))) (List (List (Str × Str)))) := (loop (m_ways_of_4 v_things v_it) (fun y => Step.fin y) (m_ways_of_5) v_st v_longer)
def k_ways_of_6 (v_things : (List Str)) (v_st : ((List (List (Str × Str))))) (v_it : Str) (v_longer : (List (List (Str × Str)))) : Prop := (LoopAll (k_ways_of_4 v_things v_it) (fun _ => True) (m_ways_of_4 v_things v_it) v_st v_longer)
def m_ways_of_7 (v_things : (List Str)) (v_st : ((List (List (Str × Str))))) (v_it : Str) : Step ((List (List (Str × Str)))) (List (List (Str × Str))) := (m_ways_of_6 v_things v_st v_it [])
def k_ways_of_7 (v_things : (List Str)) (v_st : ((List (List (Str × Str))))) (v_it : Str) : Prop := (k_ways_of_6 v_things v_st v_it [])
def m_ways_of_8  (v_st : ((List (List (Str × Str))))) : (List (List (Str × Str))) := v_st
def m_ways_of_9 (v_letters : (List Str)) (v_things : (List Str)) (v_found : (List (List (Str × Str)))) : (List (List (Str × Str))) := (loop (m_ways_of_7 v_things) (fun y => y) (m_ways_of_8) v_letters v_found)
def k_ways_of_9 (v_letters : (List Str)) (v_things : (List Str)) (v_found : (List (List (Str × Str)))) : Prop := (LoopAll (k_ways_of_7 v_things) (fun _ => True) (m_ways_of_7 v_things) v_letters v_found)
def m_ways_of (v_letters : (List Str)) (v_things : (List Str)) : (List (List (Str × Str))) := (m_ways_of_9 v_letters v_things ([[]]))
def k_ways_of (v_letters : (List Str)) (v_things : (List Str)) : Prop := (k_ways_of_9 v_letters v_things ([[]]))
abbrev s_ways_of : Stmt := top 24
theorem sc_ways_of : FnScope ["letters", "things", "found", "letter", "longer", "given", "thing", "more"] ["letters", "things"] (defScope s_ways_of) := ⟨rfl, rfl, rfl, by decide +kernel, rfl, by decide +kernel, by decide +kernel⟩
def r_ways_of : List Dt → Sum Cell Xc → Prop := fun ds a => ∃ (v_letters : (List Str)) (v_things : (List Str)), k_ways_of v_letters v_things ∧ ds = [(e0_list v_letters), (e0_list v_things)] ∧ a = .inl (.fz (e10_list (m_ways_of v_letters v_things)))
section
variable {P : Program} {w : World} {K : PySem.W.Frag} {mg : Str → Option Value} {base : Heap}
theorem run_ways_of (T : Txt K mg)  {f : Addr} {cdv : Value} {A : Around} {outer : List PySem.Env} {s : Shared} {H : Hp} {E : XK} (hr : Room 0 (A.deeper (PyProof.Rows.envOfC "ways_of" (defScope s_ways_of) s.heap.objs.size f cdv))) (v_letters : (List Str)) (v_things : (List Str)) (hk : k_ways_of v_letters v_things) :
    Run (cxOf (L2.CX P w) P w K mg base ["letters", "things", "found", "letter", "longer", "given", "thing", "more"] "ways_of" (defScope s_ways_of) f cdv A outer s H E) K (wE E) sv0 (defBody s_ways_of) (start0 ["letters", "things", "found", "letter", "longer", "given", "thing", "more"] [(e0_list v_letters), (e0_list v_things)]) (.rt (.fz (e10_list (m_ways_of v_letters v_things))) none) := by
  have h9 := hk
  refine run_asgE (i := 2) [[]] (fun v_found => .fz (e10_list v_found)) (fun _ => _) (fun v_found => [Zf (e0_list v_letters), Zf (e0_list v_things), Zf (e10_list v_found), none, none, none, none, none]) (fun v_found => .rt (.fz (e10_list (m_ways_of_9 v_letters v_things v_found))) none) (k_ways_of_9 v_letters v_things) (EX.ev (EN.frz (en_lst (ea_cons (EN.frz en_dic0 rfl) ea_nil) (Nat.le_of_ble_eq_true rfl)) rfl)) h9 sc_ways_of.nd (fun _ => rfl) (fun v_found hk => ?_)
  have h8 := hk
  refine run_forQ (js := [3]) (P := (k_ways_of_7 v_things)) (Q := (fun _ => True)) (s0 := v_found) Dt.str (fun v_st : ((List (List (Str × Str)))) => [Zf (e0_list v_letters), Zf (e0_list v_things), Zf (e10_list v_st), none, none, none, none, none]) (fun (v_st : ((List (List (Str × Str))))) (v_it : Str) => [Zf (e0_list v_letters), Zf (e0_list v_things), Zf (e10_list v_st), Zf (Dt.str v_it), none, none, none, none]) (fun x : (List (List (Str × Str))) => .rt (.fz (e10_list x)) none) (m_ways_of_7 v_things) (fun y => y) (m_ways_of_8) (passes_of rfl) rfl (pg_name (i := 3) sc_ways_of.nd rfl (by first | exact Or.inl rfl | exact Or.inr rfl)) rfl (fun _ => trivial) (src_list rfl (xv 0 rfl)) (.keep (.keep (.keep (.keep (.keep (.keep (.keep (.keep .nil)))))))) (fun _ _ => (bd_name (Nat.blt_eq.mp rfl))) h8 (fun v_st v_it hm hk => ?_) (fun v_st _ => ?_)
  · have h7 := hk
    refine run_asgE (i := 4) [] (fun v_longer => .ol (List.map e4_dict v_longer)) (fun _ => _) (fun v_longer => [Zf (e0_list v_letters), Zf (e0_list v_things), Zf (e10_list v_st), Zf (Dt.str v_it), some (.ol (List.map e4_dict v_longer)), none, none, none]) (fun v_longer => (Step.out (fun v_st : ((List (List (Str × Str)))) => [Zf (e0_list v_letters), Zf (e0_list v_things), Zf (e10_list v_st), none, none, none, none, none]) (fun x : (List (List (Str × Str))) => .rt (.fz (e10_list x)) none) (m_ways_of_6 v_things v_st v_it v_longer))) (k_ways_of_6 v_things v_st v_it) (EN.ev (en_lst ea_nil (Nat.le_of_ble_eq_true rfl))) h7 sc_ways_of.nd (fun _ => rfl) (fun v_longer hk => ?_)
    have h6 := hk
    refine run_forQ (js := [5]) (P := (k_ways_of_4 v_things v_it)) (Q := (fun _ => True)) (s0 := v_longer) e4_dict (fun v_st_1 : ((List (List (Str × Str)))) => [Zf (e0_list v_letters), Zf (e0_list v_things), Zf (e10_list v_st), Zf (Dt.str v_it), some (.ol (List.map e4_dict v_st_1)), none, none, none]) (fun (v_st_1 : ((List (List (Str × Str))))) (v_it_1 : (List (Str × Str))) => [Zf (e0_list v_letters), Zf (e0_list v_things), Zf (e10_list v_st), Zf (Dt.str v_it), some (.ol (List.map e4_dict v_st_1)), Zf (e4_dict v_it_1), none, none]) (fun x : (Step ((List (List (Str × Str)))) (List (List (Str × Str)))) => x.out (fun v_st : ((List (List (Str × Str)))) => [Zf (e0_list v_letters), Zf (e0_list v_things), Zf (e10_list v_st), none, none, none, none, none]) (fun x : (List (List (Str × Str))) => .rt (.fz (e10_list x)) none)) (m_ways_of_4 v_things v_it) (fun y => Step.fin y) (m_ways_of_5) (passes_of rfl) rfl (pg_name (i := 5) sc_ways_of.nd rfl (by first | exact Or.inl rfl | exact Or.inr rfl)) rfl (fun _ => trivial) (src_list rfl (xv 2 rfl)) (.keep (.keep (.keep (.keep (.keep (.keep (.keep (.keep .nil)))))))) (fun _ _ => (bd_name (Nat.blt_eq.mp rfl))) h6 (fun v_st_1 v_it_1 hm hk => ?_) (fun v_st_1 _ => ?_)
    · have h5 := hk
      refine run_forQ (js := [6]) (P := (k_ways_of_2 v_it v_it_1)) (Q := (fun _ => True)) (s0 := v_st_1) Dt.str (fun v_st_2 : ((List (List (Str × Str)))) => [Zf (e0_list v_letters), Zf (e0_list v_things), Zf (e10_list v_st), Zf (Dt.str v_it), some (.ol (List.map e4_dict v_st_2)), Zf (e4_dict v_it_1), none, none]) (fun (v_st_2 : ((List (List (Str × Str))))) (v_it_2 : Str) => [Zf (e0_list v_letters), Zf (e0_list v_things), Zf (e10_list v_st), Zf (Dt.str v_it), some (.ol (List.map e4_dict v_st_2)), Zf (e4_dict v_it_1), Zf (Dt.str v_it_2), none]) (fun x : (Step ((List (List (Str × Str)))) (List (List (Str × Str)))) => x.out (fun v_st_1 : ((List (List (Str × Str)))) => [Zf (e0_list v_letters), Zf (e0_list v_things), Zf (e10_list v_st), Zf (Dt.str v_it), some (.ol (List.map e4_dict v_st_1)), none, none, none]) (fun x : (List (List (Str × Str))) => .rt (.fz (e10_list x)) none)) (m_ways_of_2 v_it v_it_1) (fun y => Step.fin y) (m_ways_of_3) (passes_of rfl) rfl (pg_name (i := 6) sc_ways_of.nd rfl (by first | exact Or.inl rfl | exact Or.inr rfl)) rfl (fun _ => trivial) (src_list rfl (xv 1 rfl)) (.keep (.keep (.keep (.keep (.keep (.keep (.keep (.keep .nil)))))))) (fun _ _ => (bd_name (Nat.blt_eq.mp rfl))) h5 (fun v_st_2 v_it_2 hm hk => ?_) (fun v_st_2 _ => ?_)
      · have h4 := hk
        refine run_asgE (i := 7) v_it_1 (fun v_more => .od (encK Sum.inr Dt.str v_more)) (fun _ => _) (fun v_more => [Zf (e0_list v_letters), Zf (e0_list v_things), Zf (e10_list v_st), Zf (Dt.str v_it), some (.ol (List.map e4_dict v_st_2)), Zf (e4_dict v_it_1), Zf (Dt.str v_it_2), some (.od (encK Sum.inr Dt.str v_more))]) (fun v_more => (Step.out (fun v_st_2 : ((List (List (Str × Str)))) => [Zf (e0_list v_letters), Zf (e0_list v_things), Zf (e10_list v_st), Zf (Dt.str v_it), some (.ol (List.map e4_dict v_st_2)), Zf (e4_dict v_it_1), none, none]) (fun x : (List (List (Str × Str))) => .rt (.fz (e10_list x)) none) (m_ways_of_1 v_it v_st_2 v_it_2 v_more))) (k_ways_of_1 v_it v_st_2 v_it_2) (EN.ev (en_dict (EX.ed (xv 5 rfl)) (fun _ => rfl) (fun _ => T.n_dict))) h4 sc_ways_of.nd (fun _ => rfl) (fun v_more hk => ?_)
        obtain ⟨h2, h3⟩ := hk
        refine run_setD (g := Sum.inr) (i := 7) (π := []) (kvs := v_more) (k := v_it) (a := v_it_2) (G' := [Zf (e0_list v_letters), Zf (e0_list v_things), Zf (e10_list v_st), Zf (Dt.str v_it), some (.ol (List.map e4_dict v_st_2)), Zf (e4_dict v_it_1), Zf (Dt.str v_it_2), some (.od (encK Sum.inr Dt.str (puts v_more v_it v_it_2)))]) Dt.str (fun _ _ h => Sum.inr.inj h) (keyS _) (units_of hr) (pp 7 rfl) rfl (xv 6 rfl) (xv 3 rfl) h2 rfl ?_
        have hk := h3
        refine run_freezeQ (i := 7) (π := []) (G' := [Zf (e0_list v_letters), Zf (e0_list v_things), Zf (e10_list v_st), Zf (Dt.str v_it), some (.ol (List.map e4_dict v_st_2)), Zf (e4_dict v_it_1), Zf (Dt.str v_it_2), Zf (e4_dict (puts v_more v_it v_it_2))]) rfl rfl rfl ?_
        have h1 := hk
        refine run_append (i := 4) (π := []) (xs := v_st_2) (y := (puts v_more v_it v_it_2)) (G' := [Zf (e0_list v_letters), Zf (e0_list v_things), Zf (e10_list v_st), Zf (Dt.str v_it), some (.ol (List.map e4_dict (v_st_2 ++ [(puts v_more v_it v_it_2)]))), Zf (e4_dict v_it_1), Zf (Dt.str v_it_2), Zf (e4_dict (puts v_more v_it v_it_2))]) e4_dict rfl (pp 4 rfl) rfl (xv 7 rfl) h1 rfl ?_
        exact run_end (.keep (.keep (.keep (.keep (.keep (.keep (.drop (.drop .nil))))))))
      · exact run_end (.keep (.keep (.keep (.keep (.keep (.drop (.keep (.keep .nil))))))))
    · refine run_freezeQ (i := 4) (π := []) (G' := [Zf (e0_list v_letters), Zf (e0_list v_things), Zf (e10_list v_st), Zf (Dt.str v_it), Zf (e10_list v_st_1), none, none, none]) rfl rfl rfl ?_
      refine run_asgQ (i := 2) (Gk := [Zf (e0_list v_letters), Zf (e0_list v_things), Zf (e10_list v_st_1), Zf (Dt.str v_it), Zf (e10_list v_st_1), none, none, none]) (EX.ev (xv 4 rfl)) sc_ways_of.nd rfl ?_
      exact run_end (.keep (.keep (.keep (.drop (.drop (.keep (.keep (.keep .nil))))))))
  · exact run_ret (xv 2 rfl)
theorem ok_ways_of (T : Txt K mg)  {f : Addr} {fd : FuncData} (F : FunD K "ways_of" "ways_of" (defArgs s_ways_of) (defBody s_ways_of) (defScope s_ways_of) [] [] f fd) : FnOk P w K mg base (L2.CX P w) 1 f fd ["letters", "things"] (spR K 2 r_ways_of) :=
  fnOk_mk F sc_ways_of (fun cdv A outer s H E ds a hr hR hn => by
    obtain ⟨v_letters, v_things, hk, rfl, rfl⟩ := hR
    exact ⟨_, .rt _, run_ways_of T  hr v_letters v_things hk⟩)
theorem mk_ways_of (T : Txt K mg)  {f : Addr} {fd : FuncData} (F : FunD K "ways_of" "ways_of" (defArgs s_ways_of) (defBody s_ways_of) (defScope s_ways_of) [] [] f fd) {x : Str} (gf : mg x = some (.ref f)) : Callee P w K mg base x 1 2 r_ways_of :=
  ⟨f, fd, ["letters", "things"], ok_ways_of T  F, gf, F.kp, FunD.bindsN F fun _ _ _ _ _ _ us hl => match us, hl with | [_, _], _ => rfl⟩
end
/-! text_of -/
def m_text_of (v_side : Str) (v_name : Str) (v_places : (List Str)) : Str := (cond (((v_places).length : Int) == (0 : Int)) (v_side ++ v_name) ((((v_side ++ v_name) ++ (Str.ofString "(")) ++ (Txt.join (Str.ofString ",") v_places)) ++ (Str.ofString ")")))
def k_text_of (v_side : Str) (v_name : Str) (v_places : (List Str)) : Prop := (((((v_places).length : Int) == (0 : Int)) = true → ((v_side).length + (v_name).length ≤ bigS)) ∧ ((((v_places).length : Int) == (0 : Int)) = false → (((v_side).length + (v_name).length ≤ bigS) ∧ (((v_side ++ v_name)).length + ((Str.ofString "(")).length ≤ bigS) ∧ (joinOk (Str.ofString ",") v_places) ∧ ((((v_side ++ v_name) ++ (Str.ofString "("))).length + ((Txt.join (Str.ofString ",") v_places)).length ≤ bigS) ∧ (((((v_side ++ v_name) ++ (Str.ofString "(")) ++ (Txt.join (Str.ofString ",") v_places))).length + ((Str.ofString ")")).length ≤ bigS))))
abbrev s_text_of : Stmt := top 13
theorem sc_text_of : FnScope ["side", "name", "places"] ["side", "name", "places"] (defScope s_text_of) := ⟨rfl, rfl, rfl, by decide +kernel, rfl, by decide +kernel, by decide +kernel⟩
def r_text_of : List Dt → Sum Cell Xc → Prop := fun ds a => ∃ (v_side : Str) (v_name : Str) (v_places : (List Str)), k_text_of v_side v_name v_places ∧ ds = [(Dt.str v_side), (Dt.str v_name), (e0_list v_places)] ∧ a = .inl (.fz (Dt.str (m_text_of v_side v_name v_places)))
section
variable {P : Program} {w : World} {K : PySem.W.Frag} {mg : Str → Option Value} {base : Heap}
theorem run_text_of (T : Txt K mg)  {f : Addr} {cdv : Value} {A : Around} {outer : List PySem.Env} {s : Shared} {H : Hp} {E : XK} (hr : Room 0 (A.deeper (PyProof.Rows.envOfC "text_of" (defScope s_text_of) s.heap.objs.size f cdv))) (v_side : Str) (v_name : Str) (v_places : (List Str)) (hk : k_text_of v_side v_name v_places) :
    Run (cxOf (L2.CX P w) P w K mg base ["side", "name", "places"] "text_of" (defScope s_text_of) f cdv A outer s H E) K (wE E) sv0 (defBody s_text_of) (start0 ["side", "name", "places"] [(Dt.str v_side), (Dt.str v_name), (e0_list v_places)]) (.rt (.fz (Dt.str (m_text_of v_side v_name v_places))) none) := by
  obtain ⟨h7, h8⟩ := hk
  refine run_gd (fun x : Str => .rt (.fz (Dt.str x)) none) (v_side ++ v_name) ((((v_side ++ v_name) ++ (Str.ofString "(")) ++ (Txt.join (Str.ofString ",") v_places)) ++ (Str.ofString ")")) (fun _ h => nomatch h) (eb_cmp says_eqI (x_len Dt.str (fun _ => rfl) (EX.esL (xv 2 rfl)) (fun _ => rfl) (fun _ => T.n_len)) ex_int) (fun hb => ?_) (fun hb => ?_)
  · have hk := h7 hb
    have h1 := hk
    exact run_ret (ex_cat (xv 0 rfl) (xv 1 rfl) h1)
  · have hk := h8 hb
    obtain ⟨h2, h3, h4, h5, h6⟩ := hk
    exact run_ret (ex_cat (ex_cat (ex_cat (ex_cat (xv 0 rfl) (xv 1 rfl) h2) (ex_str (h := by decide +kernel)) h3) (x_join (fun _ => rfl) (ex_str (h := by decide +kernel)) (EX.esL (xv 2 rfl)) h4) h5) (ex_str (h := by decide +kernel)) h6)
theorem ok_text_of (T : Txt K mg)  {f : Addr} {fd : FuncData} (F : FunD K "text_of" "text_of" (defArgs s_text_of) (defBody s_text_of) (defScope s_text_of) [] [] f fd) : FnOk P w K mg base (L2.CX P w) 1 f fd ["side", "name", "places"] (spR K 3 r_text_of) :=
  fnOk_mk F sc_text_of (fun cdv A outer s H E ds a hr hR hn => by
    obtain ⟨v_side, v_name, v_places, hk, rfl, rfl⟩ := hR
    exact ⟨_, .rt _, run_text_of T  hr v_side v_name v_places hk⟩)
theorem mk_text_of (T : Txt K mg)  {f : Addr} {fd : FuncData} (F : FunD K "text_of" "text_of" (defArgs s_text_of) (defBody s_text_of) (defScope s_text_of) [] [] f fd) {x : Str} (gf : mg x = some (.ref f)) : Callee P w K mg base x 1 3 r_text_of :=
  ⟨f, fd, ["side", "name", "places"], ok_text_of T  F, gf, F.kp, FunD.bindsN F fun _ _ _ _ _ _ us hl => match us, hl with | [_, _, _], _ => rfl⟩
end
/-! filled -/
def m_filled_1 (v_given : (List (Str × Str))) (v_parts : (Str × Str × (List Str))) : Str := (m_text_of v_parts.1 v_parts.2.1 ((List.map (fun v_item_1 : Str => (Option.getD (gets v_given v_item_1) v_item_1)) v_parts.2.2)))
def k_filled_1 (v_given : (List (Str × Str))) (v_parts : (Str × Str × (List Str))) : Prop := (((v_parts.2.2).length ≤ big) ∧ (k_text_of v_parts.1 v_parts.2.1 ((List.map (fun v_item_1 : Str => (Option.getD (gets v_given v_item_1) v_item_1)) v_parts.2.2))))
def m_filled (v_statement : Str) (v_given : (List (Str × Str))) : Str := (m_filled_1 v_given (m_parts_of v_statement))
def k_filled (v_statement : Str) (v_given : (List (Str × Str))) : Prop := ((k_parts_of v_statement) ∧ (k_filled_1 v_given (m_parts_of v_statement)))
abbrev s_filled : Stmt := top 15
theorem sc_filled : FnScope ["statement", "given", "side", "name", "places", "place"] ["statement", "given"] (defScope s_filled) := ⟨rfl, rfl, rfl, by decide +kernel, rfl, by decide +kernel, by decide +kernel⟩
def r_filled : List Dt → Sum Cell Xc → Prop := fun ds a => ∃ (v_statement : Str) (v_given : (List (Str × Str))), k_filled v_statement v_given ∧ ds = [(Dt.str v_statement), (e4_dict v_given)] ∧ a = .inl (.fz (Dt.str (m_filled v_statement v_given)))
section
variable {P : Program} {w : World} {K : PySem.W.Frag} {mg : Str → Option Value} {base : Heap}
theorem run_filled (T : Txt K mg) (c_parts_of : Callee P w K mg base "parts_of" 4 1 r_parts_of) (c_text_of : Callee P w K mg base "text_of" 1 3 r_text_of) {f : Addr} {cdv : Value} {A : Around} {outer : List PySem.Env} {s : Shared} {H : Hp} {E : XK} (hr : Room 4 (A.deeper (PyProof.Rows.envOfC "filled" (defScope s_filled) s.heap.objs.size f cdv))) (v_statement : Str) (v_given : (List (Str × Str))) (hk : k_filled v_statement v_given) :
    Run (cxOf (L2.CX P w) P w K mg base ["statement", "given", "side", "name", "places", "place"] "filled" (defScope s_filled) f cdv A outer s H E) K (wE E) sv0 (defBody s_filled) (start0 ["statement", "given", "side", "name", "places", "place"] [(Dt.str v_statement), (e4_dict v_given)]) (.rt (.fz (Dt.str (m_filled v_statement v_given))) none) := by
  obtain ⟨h3, h4⟩ := hk
  refine run_asgTP (js := [2, 3, 4]) (v := (m_parts_of v_statement)) e7_tup (fun v_parts => .rt (.fz (Dt.str (m_filled_1 v_given v_parts))) none) (k_filled_1 v_given) (fun v_parts => [Zf (Dt.str v_statement), Zf (e4_dict v_given), Zf (Dt.str v_parts.1), Zf (Dt.str v_parts.2.1), Zf (e6_vtup v_parts.2.2), none]) (ex_call c_parts_of (fun _ => ⟨rfl, rfl, rfl, rfl, rfl⟩) (fun _ => hr.mono (by decide)) (fun _ => rfl) (ea_cons (xv 0 rfl) ea_nil) rfl ⟨v_statement, h3, rfl, rfl⟩) h4 (pg_tup rfl (pgs_cons (pg_name (i := 2) sc_filled.nd rfl (by first | exact Or.inl rfl | exact Or.inr rfl)) (pgs_cons (pg_name (i := 3) sc_filled.nd rfl (by first | exact Or.inl rfl | exact Or.inr rfl)) (pgs_cons (pg_name (i := 4) sc_filled.nd rfl (by first | exact Or.inl rfl | exact Or.inr rfl)) pgs_nil)))) (fun _ => bd_tup (bdl_cons (bd_name (Nat.blt_eq.mp rfl)) (bdl_cons (bd_name (Nat.blt_eq.mp rfl)) (bdl_cons (bd_name (Nat.blt_eq.mp rfl)) bdl_nil))) rfl) rfl (fun v_parts hk => ?_)
  obtain ⟨h1, h2⟩ := hk
  exact run_ret (ex_call c_text_of (fun _ => ⟨rfl, rfl, rfl, rfl, rfl⟩) (fun _ => hr.mono (by decide)) (fun _ => rfl) (ea_cons (xv 2 rfl) (ea_cons (xv 3 rfl) (ea_cons (EN.frz (EN.isL (x_lc (own := [("place", 5)]) Dt.str (fun v_item_1 : Str => [Zf (Dt.str v_statement), Zf (e4_dict v_given), Zf (Dt.str v_parts.1), Zf (Dt.str v_parts.2.1), Zf (e6_vtup v_parts.2.2), Zf (Dt.str v_item_1)]) (fun v_item_1 : Str => true) (fun v_item_1 : Str => (Dt.str (Option.getD (gets v_given v_item_1) v_item_1))) rfl sc_filled.nd (src_tup rfl (xv 4 rfl)) h1 (blkOk_by (by decide +kernel : blkC ["statement", "given", "side", "name", "places", "place"] (defScope s_filled) _ [("place", 5)] = true)) (by decide) (fun _ => (pg_name (i := 5) sc_filled.nd rfl (by first | exact Or.inl rfl | exact Or.inr rfl))) (fun _ => (bd_name (Nat.blt_eq.mp rfl))) ⟨tYes, fun _ => pts_nil, fun _ _ F H σ fps Q E q => q F H (Up.refl E.sub)⟩ (fun v_item_1 hm hp => (x_get2 (g := Sum.inr) Dt.str (fun _ _ h => Sum.inr.inj h) (keyS _) (fun _ => units_of hr) (EX.ed (xv 1 rfl)) (xv 5 rfl) (xv 5 rfl)))) (lcM_enc Dt.str (fun v_item_1 : Str => (Option.getD (gets v_given v_item_1) v_item_1)) v_parts.2.2)) rfl) ea_nil))) rfl ⟨v_parts.1, v_parts.2.1, (List.map (fun v_item_1 : Str => (Option.getD (gets v_given v_item_1) v_item_1)) v_parts.2.2), h2, rfl, rfl⟩)
theorem ok_filled (T : Txt K mg) (c_parts_of : Callee P w K mg base "parts_of" 4 1 r_parts_of) (c_text_of : Callee P w K mg base "text_of" 1 3 r_text_of) {f : Addr} {fd : FuncData} (F : FunD K "filled" "filled" (defArgs s_filled) (defBody s_filled) (defScope s_filled) [] [] f fd) : FnOk P w K mg base (L2.CX P w) 5 f fd ["statement", "given"] (spR K 2 r_filled) :=
  fnOk_mk F sc_filled (fun cdv A outer s H E ds a hr hR hn => by
    obtain ⟨v_statement, v_given, hk, rfl, rfl⟩ := hR
    exact ⟨_, .rt _, run_filled T c_parts_of c_text_of hr v_statement v_given hk⟩)
theorem mk_filled (T : Txt K mg) (c_parts_of : Callee P w K mg base "parts_of" 4 1 r_parts_of) (c_text_of : Callee P w K mg base "text_of" 1 3 r_text_of) {f : Addr} {fd : FuncData} (F : FunD K "filled" "filled" (defArgs s_filled) (defBody s_filled) (defScope s_filled) [] [] f fd) {x : Str} (gf : mg x = some (.ref f)) : Callee P w K mg base x 5 2 r_filled :=
  ⟨f, fd, ["statement", "given"], ok_filled T c_parts_of c_text_of F, gf, F.kp, FunD.bindsN F fun _ _ _ _ _ _ us hl => match us, hl with | [_, _], _ => rfl⟩
end
/-! Fact_again_l -/
def m_Fact_again_l (v_self : (Nat × Str × Str × (List Str))) (v_head : Str) (v_body : (List Str)) : (Nat × Str × Str × (List Str)) := (0, (mi_Fact___init__ v_head))
abbrev s_Fact_again_l : Stmt := sub (top 19) 3
theorem sc_Fact_again_l : FnScope ["self", "head", "body"] ["self", "head", "body"] (defScope s_Fact_again_l) := ⟨rfl, rfl, rfl, by decide +kernel, rfl, by decide +kernel, by decide +kernel⟩
def r_Fact_again_l : List Dt → Sum Cell Xc → Prop := fun ds a => ∃ (v_self : (Nat × Str × Str × (List Str))) (v_head : Str) (v_body : (List Str)), ds = [(enc_Rule v_self), (Dt.str v_head), (e0_list v_body)] ∧ a = .inl (.fz (enc_Rule (m_Fact_again_l v_self v_head v_body)))
section
variable {P : Program} {w : World} {K : PySem.W.Frag} {mg : Str → Option Value} {base : Heap}
theorem run_Fact_again_l (T : Txt K mg) (c_i_Fact_Fact___init__ : CalleeBI P w K mg base "Fact" 3 2 r_Fact___init__) {f : Addr} {cdv : Value} {A : Around} {outer : List PySem.Env} {s : Shared} {H : Hp} {E : XK} (hr : Room 4 (A.deeper (PyProof.Rows.envOfC "Fact.again" (defScope s_Fact_again_l) s.heap.objs.size f cdv))) (v_self : (Nat × Str × Str × (List Str))) (v_head : Str) (v_body : (List Str)) :
    Run (cxOf (L2.CX P w) P w K mg base ["self", "head", "body"] "Fact.again" (defScope s_Fact_again_l) f cdv A outer s H E) K (wE E) sv0 (defBody s_Fact_again_l) (start0 ["self", "head", "body"] [(enc_Rule v_self), (Dt.str v_head), (e0_list v_body)]) (.rt (.fz (enc_Rule (m_Fact_again_l v_self v_head v_body))) none) := by
  exact run_ret (EN.frz (en_make c_i_Fact_Fact___init__ T.mk_Fact T.gc_Fact (fun _ => ⟨rfl, rfl, rfl, rfl, rfl⟩) (fun _ => hr.mono (by decide)) (fun _ => rfl) (ea_cons (xv 1 rfl) ea_nil) rfl ⟨0, v_head, rfl, rfl, rfl⟩) rfl)
theorem ok_Fact_again_l (T : Txt K mg) (c_i_Fact_Fact___init__ : CalleeBI P w K mg base "Fact" 3 2 r_Fact___init__) {f : Addr} {fd : FuncData} (F : FunD K "again" "Fact.again" (defArgs s_Fact_again_l) (defBody s_Fact_again_l) (defScope s_Fact_again_l) [] [] f fd) : FnOk P w K mg base (L2.CX P w) 5 f fd ["self", "head", "body"] (spR K 3 r_Fact_again_l) :=
  fnOk_mk F sc_Fact_again_l (fun cdv A outer s H E ds a hr hR hn => by
    obtain ⟨v_self, v_head, v_body, rfl, rfl⟩ := hR
    exact ⟨_, .rt _, run_Fact_again_l T c_i_Fact_Fact___init__ hr v_self v_head v_body⟩)
theorem mk_Fact_again_l (T : Txt K mg) (c_i_Fact_Fact___init__ : CalleeBI P w K mg base "Fact" 3 2 r_Fact___init__) {f : Addr} {fd : FuncData} (F : FunD K "again" "Fact.again" (defArgs s_Fact_again_l) (defBody s_Fact_again_l) (defScope s_Fact_again_l) [] [] f fd) {C : Str} (M : Meth K (He.ga K C) "again" f) : CalleeM P w K mg base C "again" 5 3 r_Fact_again_l :=
  ⟨f, fd, ["self", "head", "body"], ok_Fact_again_l T c_i_Fact_Fact___init__ F, M, FunD.bindsN F fun _ _ _ _ _ _ us hl => match us, hl with | [_, _, _], _ => rfl⟩
end
/-! Sure_again_l -/
def m_Sure_again_l (v_self : (Nat × Str × Str × (List Str))) (v_head : Str) (v_body : (List Str)) : (Nat × Str × Str × (List Str)) := (1, (mi_Rule___init___l v_self.2.1 v_head v_body))
abbrev s_Sure_again_l : Stmt := sub (top 20) 2
theorem sc_Sure_again_l : FnScope ["self", "head", "body"] ["self", "head", "body"] (defScope s_Sure_again_l) := ⟨rfl, rfl, rfl, by decide +kernel, rfl, by decide +kernel, by decide +kernel⟩
def r_Sure_again_l : List Dt → Sum Cell Xc → Prop := fun ds a => ∃ (v_self : (Nat × Str × Str × (List Str))) (v_head : Str) (v_body : (List Str)), ds = [(enc_Rule v_self), (Dt.str v_head), (e0_list v_body)] ∧ a = .inl (.fz (enc_Rule (m_Sure_again_l v_self v_head v_body)))
section
variable {P : Program} {w : World} {K : PySem.W.Frag} {mg : Str → Option Value} {base : Heap}
theorem run_Sure_again_l (T : Txt K mg) (c_i_Sure_Rule___init___l : CalleeBI P w K mg base "Sure" 1 4 r_Rule___init___l) {f : Addr} {cdv : Value} {A : Around} {outer : List PySem.Env} {s : Shared} {H : Hp} {E : XK} (hr : Room 2 (A.deeper (PyProof.Rows.envOfC "Sure.again" (defScope s_Sure_again_l) s.heap.objs.size f cdv))) (v_self : (Nat × Str × Str × (List Str))) (v_head : Str) (v_body : (List Str)) :
    Run (cxOf (L2.CX P w) P w K mg base ["self", "head", "body"] "Sure.again" (defScope s_Sure_again_l) f cdv A outer s H E) K (wE E) sv0 (defBody s_Sure_again_l) (start0 ["self", "head", "body"] [(enc_Rule v_self), (Dt.str v_head), (e0_list v_body)]) (.rt (.fz (enc_Rule (m_Sure_again_l v_self v_head v_body))) none) := by
  exact run_ret (EN.frz (en_make c_i_Sure_Rule___init___l T.mk_Sure T.gc_Sure (fun _ => ⟨rfl, rfl, rfl, rfl, rfl⟩) (fun _ => hr.mono (by decide)) (fun _ => rfl) (ea_cons (ex_fld (fun _ => rfl) (T.cl_Rule _) (T.na_Rule_label _) (xv 0 rfl) (lk_Rule_label _)) (ea_cons (xv 1 rfl) (ea_cons (xv 2 rfl) ea_nil))) rfl ⟨1, v_self.2.1, v_head, v_body, rfl, rfl, rfl⟩) rfl)
theorem ok_Sure_again_l (T : Txt K mg) (c_i_Sure_Rule___init___l : CalleeBI P w K mg base "Sure" 1 4 r_Rule___init___l) {f : Addr} {fd : FuncData} (F : FunD K "again" "Sure.again" (defArgs s_Sure_again_l) (defBody s_Sure_again_l) (defScope s_Sure_again_l) [] [] f fd) : FnOk P w K mg base (L2.CX P w) 3 f fd ["self", "head", "body"] (spR K 3 r_Sure_again_l) :=
  fnOk_mk F sc_Sure_again_l (fun cdv A outer s H E ds a hr hR hn => by
    obtain ⟨v_self, v_head, v_body, rfl, rfl⟩ := hR
    exact ⟨_, .rt _, run_Sure_again_l T c_i_Sure_Rule___init___l hr v_self v_head v_body⟩)
theorem mk_Sure_again_l (T : Txt K mg) (c_i_Sure_Rule___init___l : CalleeBI P w K mg base "Sure" 1 4 r_Rule___init___l) {f : Addr} {fd : FuncData} (F : FunD K "again" "Sure.again" (defArgs s_Sure_again_l) (defBody s_Sure_again_l) (defScope s_Sure_again_l) [] [] f fd) {C : Str} (M : Meth K (He.ga K C) "again" f) : CalleeM P w K mg base C "again" 3 3 r_Sure_again_l :=
  ⟨f, fd, ["self", "head", "body"], ok_Sure_again_l T c_i_Sure_Rule___init___l F, M, FunD.bindsN F fun _ _ _ _ _ _ us hl => match us, hl with | [_, _, _], _ => rfl⟩
end
/-! Most_again_l -/
def m_Most_again_l (v_self : (Nat × Str × Str × (List Str))) (v_head : Str) (v_body : (List Str)) : (Nat × Str × Str × (List Str)) := (2, (mi_Rule___init___l v_self.2.1 v_head v_body))
abbrev s_Most_again_l : Stmt := sub (top 21) 1
theorem sc_Most_again_l : FnScope ["self", "head", "body"] ["self", "head", "body"] (defScope s_Most_again_l) := ⟨rfl, rfl, rfl, by decide +kernel, rfl, by decide +kernel, by decide +kernel⟩
def r_Most_again_l : List Dt → Sum Cell Xc → Prop := fun ds a => ∃ (v_self : (Nat × Str × Str × (List Str))) (v_head : Str) (v_body : (List Str)), ds = [(enc_Rule v_self), (Dt.str v_head), (e0_list v_body)] ∧ a = .inl (.fz (enc_Rule (m_Most_again_l v_self v_head v_body)))
section
variable {P : Program} {w : World} {K : PySem.W.Frag} {mg : Str → Option Value} {base : Heap}
theorem run_Most_again_l (T : Txt K mg) (c_i_Most_Rule___init___l : CalleeBI P w K mg base "Most" 1 4 r_Rule___init___l) {f : Addr} {cdv : Value} {A : Around} {outer : List PySem.Env} {s : Shared} {H : Hp} {E : XK} (hr : Room 2 (A.deeper (PyProof.Rows.envOfC "Most.again" (defScope s_Most_again_l) s.heap.objs.size f cdv))) (v_self : (Nat × Str × Str × (List Str))) (v_head : Str) (v_body : (List Str)) :
    Run (cxOf (L2.CX P w) P w K mg base ["self", "head", "body"] "Most.again" (defScope s_Most_again_l) f cdv A outer s H E) K (wE E) sv0 (defBody s_Most_again_l) (start0 ["self", "head", "body"] [(enc_Rule v_self), (Dt.str v_head), (e0_list v_body)]) (.rt (.fz (enc_Rule (m_Most_again_l v_self v_head v_body))) none) := by
  exact run_ret (EN.frz (en_make c_i_Most_Rule___init___l T.mk_Most T.gc_Most (fun _ => ⟨rfl, rfl, rfl, rfl, rfl⟩) (fun _ => hr.mono (by decide)) (fun _ => rfl) (ea_cons (ex_fld (fun _ => rfl) (T.cl_Rule _) (T.na_Rule_label _) (xv 0 rfl) (lk_Rule_label _)) (ea_cons (xv 1 rfl) (ea_cons (xv 2 rfl) ea_nil))) rfl ⟨2, v_self.2.1, v_head, v_body, rfl, rfl, rfl⟩) rfl)
theorem ok_Most_again_l (T : Txt K mg) (c_i_Most_Rule___init___l : CalleeBI P w K mg base "Most" 1 4 r_Rule___init___l) {f : Addr} {fd : FuncData} (F : FunD K "again" "Most.again" (defArgs s_Most_again_l) (defBody s_Most_again_l) (defScope s_Most_again_l) [] [] f fd) : FnOk P w K mg base (L2.CX P w) 3 f fd ["self", "head", "body"] (spR K 3 r_Most_again_l) :=
  fnOk_mk F sc_Most_again_l (fun cdv A outer s H E ds a hr hR hn => by
    obtain ⟨v_self, v_head, v_body, rfl, rfl⟩ := hR
    exact ⟨_, .rt _, run_Most_again_l T c_i_Most_Rule___init___l hr v_self v_head v_body⟩)
theorem mk_Most_again_l (T : Txt K mg) (c_i_Most_Rule___init___l : CalleeBI P w K mg base "Most" 1 4 r_Rule___init___l) {f : Addr} {fd : FuncData} (F : FunD K "again" "Most.again" (defArgs s_Most_again_l) (defBody s_Most_again_l) (defScope s_Most_again_l) [] [] f fd) {C : Str} (M : Meth K (He.ga K C) "again" f) : CalleeM P w K mg base C "again" 3 3 r_Most_again_l :=
  ⟨f, fd, ["self", "head", "body"], ok_Most_again_l T c_i_Most_Rule___init___l F, M, FunD.bindsN F fun _ _ _ _ _ _ us hl => match us, hl with | [_, _, _], _ => rfl⟩
end
/-! Block_again_l -/
def m_Block_again_l (v_self : (Nat × Str × Str × (List Str))) (v_head : Str) (v_body : (List Str)) : (Nat × Str × Str × (List Str)) := (3, (mi_Rule___init___l v_self.2.1 v_head v_body))
abbrev s_Block_again_l : Stmt := sub (top 22) 2
theorem sc_Block_again_l : FnScope ["self", "head", "body"] ["self", "head", "body"] (defScope s_Block_again_l) := ⟨rfl, rfl, rfl, by decide +kernel, rfl, by decide +kernel, by decide +kernel⟩
def r_Block_again_l : List Dt → Sum Cell Xc → Prop := fun ds a => ∃ (v_self : (Nat × Str × Str × (List Str))) (v_head : Str) (v_body : (List Str)), ds = [(enc_Rule v_self), (Dt.str v_head), (e0_list v_body)] ∧ a = .inl (.fz (enc_Rule (m_Block_again_l v_self v_head v_body)))
section
variable {P : Program} {w : World} {K : PySem.W.Frag} {mg : Str → Option Value} {base : Heap}
theorem run_Block_again_l (T : Txt K mg) (c_i_Block_Rule___init___l : CalleeBI P w K mg base "Block" 1 4 r_Rule___init___l) {f : Addr} {cdv : Value} {A : Around} {outer : List PySem.Env} {s : Shared} {H : Hp} {E : XK} (hr : Room 2 (A.deeper (PyProof.Rows.envOfC "Block.again" (defScope s_Block_again_l) s.heap.objs.size f cdv))) (v_self : (Nat × Str × Str × (List Str))) (v_head : Str) (v_body : (List Str)) :
    Run (cxOf (L2.CX P w) P w K mg base ["self", "head", "body"] "Block.again" (defScope s_Block_again_l) f cdv A outer s H E) K (wE E) sv0 (defBody s_Block_again_l) (start0 ["self", "head", "body"] [(enc_Rule v_self), (Dt.str v_head), (e0_list v_body)]) (.rt (.fz (enc_Rule (m_Block_again_l v_self v_head v_body))) none) := by
  exact run_ret (EN.frz (en_make c_i_Block_Rule___init___l T.mk_Block T.gc_Block (fun _ => ⟨rfl, rfl, rfl, rfl, rfl⟩) (fun _ => hr.mono (by decide)) (fun _ => rfl) (ea_cons (ex_fld (fun _ => rfl) (T.cl_Rule _) (T.na_Rule_label _) (xv 0 rfl) (lk_Rule_label _)) (ea_cons (xv 1 rfl) (ea_cons (xv 2 rfl) ea_nil))) rfl ⟨3, v_self.2.1, v_head, v_body, rfl, rfl, rfl⟩) rfl)
theorem ok_Block_again_l (T : Txt K mg) (c_i_Block_Rule___init___l : CalleeBI P w K mg base "Block" 1 4 r_Rule___init___l) {f : Addr} {fd : FuncData} (F : FunD K "again" "Block.again" (defArgs s_Block_again_l) (defBody s_Block_again_l) (defScope s_Block_again_l) [] [] f fd) : FnOk P w K mg base (L2.CX P w) 3 f fd ["self", "head", "body"] (spR K 3 r_Block_again_l) :=
  fnOk_mk F sc_Block_again_l (fun cdv A outer s H E ds a hr hR hn => by
    obtain ⟨v_self, v_head, v_body, rfl, rfl⟩ := hR
    exact ⟨_, .rt _, run_Block_again_l T c_i_Block_Rule___init___l hr v_self v_head v_body⟩)
theorem mk_Block_again_l (T : Txt K mg) (c_i_Block_Rule___init___l : CalleeBI P w K mg base "Block" 1 4 r_Rule___init___l) {f : Addr} {fd : FuncData} (F : FunD K "again" "Block.again" (defArgs s_Block_again_l) (defBody s_Block_again_l) (defScope s_Block_again_l) [] [] f fd) {C : Str} (M : Meth K (He.ga K C) "again" f) : CalleeM P w K mg base C "again" 3 3 r_Block_again_l :=
  ⟨f, fd, ["self", "head", "body"], ok_Block_again_l T c_i_Block_Rule___init___l F, M, FunD.bindsN F fun _ _ _ _ _ _ us hl => match us, hl with | [_, _, _], _ => rfl⟩
end
/-! d_Rule_again -/
def m_d_Rule_again (z : (Nat × Str × Str × (List Str))) (a0 : Str) (a1 : (List Str)) : (Nat × Str × Str × (List Str)) := match z.1 with
  | 0 => m_Fact_again_l z a0 a1
  | 1 => m_Sure_again_l z a0 a1
  | 2 => m_Most_again_l z a0 a1
  | _ => m_Block_again_l z a0 a1
def rr_d_Rule_again : Nat → List Dt → Sum Cell Xc → Prop := fun k => match k with
  | 0 => r_Fact_again_l
  | 1 => r_Sure_again_l
  | 2 => r_Most_again_l
  | _ => r_Block_again_l
theorem dd_d_Rule_again (z : (Nat × Str × Str × (List Str))) (a0 : Str) (a1 : (List Str)) : rr_d_Rule_again z.1 [(enc_Rule z), (Dt.str a0), (e0_list a1)] (.inl (.fz (enc_Rule (m_d_Rule_again z a0 a1)))) := by
  obtain ⟨k, z⟩ := z
  rcases k with _ | _ | _ | k
  · exact ⟨(0, z), a0, a1, rfl, rfl⟩
  · exact ⟨(1, z), a0, a1, rfl, rfl⟩
  · exact ⟨(2, z), a0, a1, rfl, rfl⟩
  · exact ⟨(k + 3, z), a0, a1, rfl, rfl⟩
/-! Rule_filled -/
def m_Rule_filled (v_self : (Nat × Str × Str × (List Str))) (v_given : (List (Str × Str))) : (Nat × Str × Str × (List Str)) := (m_d_Rule_again v_self (m_filled v_self.2.2.1 v_given) (List.map (fun v_item_1 : Str => (m_filled v_item_1 v_given)) v_self.2.2.2))
def k_Rule_filled (v_self : (Nat × Str × Str × (List Str))) (v_given : (List (Str × Str))) : Prop := ((k_filled v_self.2.2.1 v_given) ∧ ((v_self.2.2.2).length ≤ big) ∧ (∀ v_item_1 ∈ v_self.2.2.2, (k_filled v_item_1 v_given)))
abbrev s_Rule_filled : Stmt := sub (top 18) 6
theorem sc_Rule_filled : FnScope ["self", "given", "one"] ["self", "given"] (defScope s_Rule_filled) := ⟨rfl, rfl, rfl, by decide +kernel, rfl, by decide +kernel, by decide +kernel⟩
def r_Rule_filled : List Dt → Sum Cell Xc → Prop := fun ds a => ∃ (v_self : (Nat × Str × Str × (List Str))) (v_given : (List (Str × Str))), k_Rule_filled v_self v_given ∧ ds = [(enc_Rule v_self), (e4_dict v_given)] ∧ a = .inl (.fz (enc_Rule (m_Rule_filled v_self v_given)))
section
variable {P : Program} {w : World} {K : PySem.W.Frag} {mg : Str → Option Value} {base : Heap}
theorem run_Rule_filled (T : Txt K mg) (c_al_filled_words_filled : Callee P w K mg base "filled_words" 5 2 r_filled) (c_d_Rule_again : ∀ k, CalleeM P w K mg base (cn_Rule k) "again" 5 3 (rr_d_Rule_again k)) {f : Addr} {cdv : Value} {A : Around} {outer : List PySem.Env} {s : Shared} {H : Hp} {E : XK} (hr : Room 5 (A.deeper (PyProof.Rows.envOfC "Rule.filled" (defScope s_Rule_filled) s.heap.objs.size f cdv))) (v_self : (Nat × Str × Str × (List Str))) (v_given : (List (Str × Str))) (hk : k_Rule_filled v_self v_given) :
    Run (cxOf (L2.CX P w) P w K mg base ["self", "given", "one"] "Rule.filled" (defScope s_Rule_filled) f cdv A outer s H E) K (wE E) sv0 (defBody s_Rule_filled) (start0 ["self", "given", "one"] [(enc_Rule v_self), (e4_dict v_given)]) (.rt (.fz (enc_Rule (m_Rule_filled v_self v_given))) none) := by
  obtain ⟨h1, h2, h3⟩ := hk
  exact run_ret (EN.fz0 (en_meth (c_d_Rule_again _) (T.cl_Rule _) (fun _ => ⟨rfl, rfl, rfl, rfl, rfl⟩) (fun _ => hr.mono (by decide)) (xv 0 rfl) (ea_cons (ex_call c_al_filled_words_filled (fun _ => ⟨rfl, rfl, rfl, rfl, rfl⟩) (fun _ => hr.mono (by decide)) (fun _ => rfl) (ea_cons (ex_fld (fun _ => rfl) (T.cl_Rule _) (T.na_Rule_head _) (xv 0 rfl) (lk_Rule_head _)) (ea_cons (xv 1 rfl) ea_nil)) rfl ⟨v_self.2.2.1, v_given, h1, rfl, rfl⟩) (ea_cons (EN.frz (EN.isL (x_lc (own := [("one", 2)]) Dt.str (fun v_item_1 : Str => [Zf (enc_Rule v_self), Zf (e4_dict v_given), Zf (Dt.str v_item_1)]) (fun v_item_1 : Str => true) (fun v_item_1 : Str => (Dt.str (m_filled v_item_1 v_given))) rfl sc_Rule_filled.nd (src_tup rfl (ex_fld (fun _ => rfl) (T.cl_Rule _) (T.na_Rule_body _) (xv 0 rfl) (lk_Rule_body _))) h2 (blkOk_by (by decide +kernel : blkC ["self", "given", "one"] (defScope s_Rule_filled) _ [("one", 2)] = true)) (by decide) (fun _ => (pg_name (i := 2) sc_Rule_filled.nd rfl (by first | exact Or.inl rfl | exact Or.inr rfl))) (fun _ => (bd_name (Nat.blt_eq.mp rfl))) ⟨tYes, fun _ => pts_nil, fun _ _ F H σ fps Q E q => q F H (Up.refl E.sub)⟩ (fun v_item_1 hm hp => (ex_call c_al_filled_words_filled (fun _ => ⟨rfl, rfl, rfl, rfl, rfl⟩) (fun _ => hr.mono (by decide)) (fun _ => rfl) (ea_cons (xv 2 rfl) (ea_cons (xv 1 rfl) ea_nil)) rfl ⟨v_item_1, v_given, (h3 v_item_1 hm), rfl, rfl⟩))) (lcM_enc Dt.str (fun v_item_1 : Str => (m_filled v_item_1 v_given)) v_self.2.2.2)) rfl) ea_nil)) rfl (dd_d_Rule_again v_self (m_filled v_self.2.2.1 v_given) (List.map (fun v_item_1 : Str => (m_filled v_item_1 v_given)) v_self.2.2.2))))
theorem ok_Rule_filled (T : Txt K mg) (c_al_filled_words_filled : Callee P w K mg base "filled_words" 5 2 r_filled) (c_d_Rule_again : ∀ k, CalleeM P w K mg base (cn_Rule k) "again" 5 3 (rr_d_Rule_again k)) {f : Addr} {fd : FuncData} (F : FunD K "filled" "Rule.filled" (defArgs s_Rule_filled) (defBody s_Rule_filled) (defScope s_Rule_filled) [] [] f fd) : FnOk P w K mg base (L2.CX P w) 6 f fd ["self", "given"] (spR K 2 r_Rule_filled) :=
  fnOk_mk F sc_Rule_filled (fun cdv A outer s H E ds a hr hR hn => by
    obtain ⟨v_self, v_given, hk, rfl, rfl⟩ := hR
    exact ⟨_, .rt _, run_Rule_filled T c_al_filled_words_filled c_d_Rule_again hr v_self v_given hk⟩)
theorem mk_Rule_filled (T : Txt K mg) (c_al_filled_words_filled : Callee P w K mg base "filled_words" 5 2 r_filled) (c_d_Rule_again : ∀ k, CalleeM P w K mg base (cn_Rule k) "again" 5 3 (rr_d_Rule_again k)) {f : Addr} {fd : FuncData} (F : FunD K "filled" "Rule.filled" (defArgs s_Rule_filled) (defBody s_Rule_filled) (defScope s_Rule_filled) [] [] f fd) {C : Str} (M : Meth K (He.ga K C) "filled" f) : CalleeM P w K mg base C "filled" 6 2 r_Rule_filled :=
  ⟨f, fd, ["self", "given"], ok_Rule_filled T c_al_filled_words_filled c_d_Rule_again F, M, FunD.bindsN F fun _ _ _ _ _ _ us hl => match us, hl with | [_, _], _ => rfl⟩
end
/-! d_Rule_filled -/
def m_d_Rule_filled (z : (Nat × Str × Str × (List Str))) (a0 : (List (Str × Str))) : (Nat × Str × Str × (List Str)) := match z.1 with
  | 0 => m_Rule_filled z a0
  | 1 => m_Rule_filled z a0
  | 2 => m_Rule_filled z a0
  | _ => m_Rule_filled z a0
def k_d_Rule_filled (z : (Nat × Str × Str × (List Str))) (a0 : (List (Str × Str))) : Prop := match z.1 with
  | 0 => k_Rule_filled z a0
  | 1 => k_Rule_filled z a0
  | 2 => k_Rule_filled z a0
  | _ => k_Rule_filled z a0
def rr_d_Rule_filled : Nat → List Dt → Sum Cell Xc → Prop := fun k => match k with
  | 0 => r_Rule_filled
  | 1 => r_Rule_filled
  | 2 => r_Rule_filled
  | _ => r_Rule_filled
theorem dd_d_Rule_filled (z : (Nat × Str × Str × (List Str))) (a0 : (List (Str × Str))) (hk : k_d_Rule_filled z a0) : rr_d_Rule_filled z.1 [(enc_Rule z), (e4_dict a0)] (.inl (.fz (enc_Rule (m_d_Rule_filled z a0)))) := by
  obtain ⟨k, z⟩ := z
  rcases k with _ | _ | _ | k
  · exact ⟨(0, z), a0, hk, rfl, rfl⟩
  · exact ⟨(1, z), a0, hk, rfl, rfl⟩
  · exact ⟨(2, z), a0, hk, rfl, rfl⟩
  · exact ⟨(k + 3, z), a0, hk, rfl, rfl⟩
/-! written_out -/
def m_written_out (v_rule : (Nat × Str × Str × (List Str))) (v_things : (List Str)) : (List (Nat × Str × Str × (List Str))) := (List.map (fun v_item : (List (Str × Str)) => (m_d_Rule_filled v_rule v_item)) (m_ways_of ((m_d_Rule_letters v_rule)) v_things))
def k_written_out (v_rule : (Nat × Str × Str × (List Str))) (v_things : (List Str)) : Prop := ((k_d_Rule_letters v_rule) ∧ (k_ways_of ((m_d_Rule_letters v_rule)) v_things) ∧ (((m_ways_of ((m_d_Rule_letters v_rule)) v_things)).length ≤ big) ∧ (∀ v_item ∈ (m_ways_of ((m_d_Rule_letters v_rule)) v_things), (k_d_Rule_filled v_rule v_item)))
abbrev s_written_out : Stmt := top 25
theorem sc_written_out : FnScope ["rule", "things", "given"] ["rule", "things"] (defScope s_written_out) := ⟨rfl, rfl, rfl, by decide +kernel, rfl, by decide +kernel, by decide +kernel⟩
def r_written_out : List Dt → Sum Cell Xc → Prop := fun ds a => ∃ (v_rule : (Nat × Str × Str × (List Str))) (v_things : (List Str)), k_written_out v_rule v_things ∧ ds = [(enc_Rule v_rule), (e0_list v_things)] ∧ a = .inl (.ol (List.map enc_Rule (m_written_out v_rule v_things)))
section
variable {P : Program} {w : World} {K : PySem.W.Frag} {mg : Str → Option Value} {base : Heap}
theorem run_written_out (T : Txt K mg) (c_d_Rule_filled : ∀ k, CalleeM P w K mg base (cn_Rule k) "filled" 6 2 (rr_d_Rule_filled k)) (c_d_Rule_letters : ∀ k, CalleeM P w K mg base (cn_Rule k) "letters" 6 1 (rr_d_Rule_letters k)) (c_ways_of : Callee P w K mg base "ways_of" 1 2 r_ways_of) {f : Addr} {cdv : Value} {A : Around} {outer : List PySem.Env} {s : Shared} {H : Hp} {E : XK} (hr : Room 6 (A.deeper (PyProof.Rows.envOfC "written_out" (defScope s_written_out) s.heap.objs.size f cdv))) (v_rule : (Nat × Str × Str × (List Str))) (v_things : (List Str)) (hk : k_written_out v_rule v_things) :
    Run (cxOf (L2.CX P w) P w K mg base ["rule", "things", "given"] "written_out" (defScope s_written_out) f cdv A outer s H E) K (wE E) sv0 (defBody s_written_out) (start0 ["rule", "things", "given"] [(enc_Rule v_rule), (e0_list v_things)]) (.rt (.ol (List.map enc_Rule (m_written_out v_rule v_things))) none) := by
  obtain ⟨h1, h2, h3, h4⟩ := hk
  exact run_retN (EN.isL (x_lc (own := [("given", 2)]) e4_dict (fun v_item : (List (Str × Str)) => [Zf (enc_Rule v_rule), Zf (e0_list v_things), Zf (e4_dict v_item)]) (fun v_item : (List (Str × Str)) => true) (fun v_item : (List (Str × Str)) => (enc_Rule (m_d_Rule_filled v_rule v_item))) rfl sc_written_out.nd (src_list rfl (ex_call c_ways_of (fun _ => ⟨rfl, rfl, rfl, rfl, rfl⟩) (fun _ => hr.mono (by decide)) (fun _ => rfl) (ea_cons (EN.frz (en_meth0 (c_d_Rule_letters _) (T.cl_Rule _) (fun _ => ⟨rfl, rfl, rfl, rfl, rfl⟩) (fun _ => hr.mono (by decide)) (xv 0 rfl) rfl (dd_d_Rule_letters v_rule h1)) rfl) (ea_cons (xv 1 rfl) ea_nil)) rfl ⟨(m_d_Rule_letters v_rule), v_things, h2, rfl, rfl⟩)) h3 (blkOk_by (by decide +kernel : blkC ["rule", "things", "given"] (defScope s_written_out) _ [("given", 2)] = true)) (by decide) (fun _ => (pg_name (i := 2) sc_written_out.nd rfl (by first | exact Or.inl rfl | exact Or.inr rfl))) (fun _ => (bd_name (Nat.blt_eq.mp rfl))) ⟨tYes, fun _ => pts_nil, fun _ _ F H σ fps Q E q => q F H (Up.refl E.sub)⟩ (fun v_item hm hp => (EN.fz0 (en_meth (c_d_Rule_filled _) (T.cl_Rule _) (fun _ => ⟨rfl, rfl, rfl, rfl, rfl⟩) (fun _ => hr.mono (by decide)) (xv 0 rfl) (ea_cons (xv 2 rfl) ea_nil) rfl (dd_d_Rule_filled v_rule v_item (h4 v_item hm)))))) (lcM_enc enc_Rule (fun v_item : (List (Str × Str)) => (m_d_Rule_filled v_rule v_item)) (m_ways_of ((m_d_Rule_letters v_rule)) v_things)))
theorem ok_written_out (T : Txt K mg) (c_d_Rule_filled : ∀ k, CalleeM P w K mg base (cn_Rule k) "filled" 6 2 (rr_d_Rule_filled k)) (c_d_Rule_letters : ∀ k, CalleeM P w K mg base (cn_Rule k) "letters" 6 1 (rr_d_Rule_letters k)) (c_ways_of : Callee P w K mg base "ways_of" 1 2 r_ways_of) {f : Addr} {fd : FuncData} (F : FunD K "written_out" "written_out" (defArgs s_written_out) (defBody s_written_out) (defScope s_written_out) [] [] f fd) : FnOk P w K mg base (L2.CX P w) 7 f fd ["rule", "things"] (spR K 2 r_written_out) :=
  fnOk_mk F sc_written_out (fun cdv A outer s H E ds a hr hR hn => by
    obtain ⟨v_rule, v_things, hk, rfl, rfl⟩ := hR
    exact ⟨_, .rt _, run_written_out T c_d_Rule_filled c_d_Rule_letters c_ways_of hr v_rule v_things hk⟩)
theorem mk_written_out (T : Txt K mg) (c_d_Rule_filled : ∀ k, CalleeM P w K mg base (cn_Rule k) "filled" 6 2 (rr_d_Rule_filled k)) (c_d_Rule_letters : ∀ k, CalleeM P w K mg base (cn_Rule k) "letters" 6 1 (rr_d_Rule_letters k)) (c_ways_of : Callee P w K mg base "ways_of" 1 2 r_ways_of) {f : Addr} {fd : FuncData} (F : FunD K "written_out" "written_out" (defArgs s_written_out) (defBody s_written_out) (defScope s_written_out) [] [] f fd) {x : Str} (gf : mg x = some (.ref f)) : Callee P w K mg base x 7 2 r_written_out :=
  ⟨f, fd, ["rule", "things"], ok_written_out T c_d_Rule_filled c_d_Rule_letters c_ways_of F, gf, F.kp, FunD.bindsN F fun _ _ _ _ _ _ us hl => match us, hl with | [_, _], _ => rfl⟩
end
/-! law_good -/
def m_law_good_1 (v_kind : Int) (v_label : Str) (v_it : ((Nat × Str × Str × (List Str)) × (List Str))) (v_kinds : (List Bool)) : (Step (Unit) Bool) := (cond ((!(v_kinds == (List.map (fun v_item : Nat => ((v_item : Int) == v_kind)) (List.range (Int.toNat (4 : Int)))))) || (!(v_it.1.2.1 == v_label))) (.fin false) (cond ((!(v_it.1.2.2.1 == (itm v_it.2 (0 : Int)))) || (!(v_it.1.2.2.2 == (cut v_it.2 (some (1 : Int)) none)))) (.fin false) (.nx ())))
def k_law_good_1 (v_kind : Int) (v_label : Str) (v_it : ((Nat × Str × Str × (List Str)) × (List Str))) (v_kinds : (List Bool)) : Prop := ((rngOk (4 : Int)) ∧ (((List.range (Int.toNat (4 : Int)))).length ≤ big) ∧ (((!(v_kinds == (List.map (fun v_item : Nat => ((v_item : Int) == v_kind)) (List.range (Int.toNat (4 : Int)))))) || (!(v_it.1.2.1 == v_label))) = false → (inI v_it.2 (0 : Int) = true)))
def m_law_good_2 (v_kind : Int) (v_label : Str) (v_st : (Unit)) (v_it : ((Nat × Str × Str × (List Str)) × (List Str))) : Step (Unit) Bool := (m_law_good_1 v_kind v_label v_it ([(ib_Rule_Sure v_it.1.1), (ib_Rule_Most v_it.1.1), (ib_Rule_Block v_it.1.1), (ib_Rule_Fact v_it.1.1)]))
def k_law_good_2 (v_kind : Int) (v_label : Str) (v_st : (Unit)) (v_it : ((Nat × Str × Str × (List Str)) × (List Str))) : Prop := (k_law_good_1 v_kind v_label v_it ([(ib_Rule_Sure v_it.1.1), (ib_Rule_Most v_it.1.1), (ib_Rule_Block v_it.1.1), (ib_Rule_Fact v_it.1.1)]))
def m_law_good_3  (v_st : (Unit)) : Bool := true
def m_law_good (v_found : (List (Nat × Str × Str × (List Str)))) (v_kind : Int) (v_label : Str) (v_due_here : (List (List Str))) : Bool := (cond (!(((v_found).length : Int) == ((v_due_here).length : Int))) false (loop (m_law_good_2 v_kind v_label) (fun y => y) (m_law_good_3) (List.zip v_found v_due_here) ()))
def k_law_good (v_found : (List (Nat × Str × Str × (List Str)))) (v_kind : Int) (v_label : Str) (v_due_here : (List (List Str))) : Prop := ((!(((v_found).length : Int) == ((v_due_here).length : Int))) = false → (LoopAll (k_law_good_2 v_kind v_label) (fun _ => True) (m_law_good_2 v_kind v_label) (List.zip v_found v_due_here) ()))
abbrev s_law_good : Stmt := top 36
theorem sc_law_good : FnScope ["_law_found", "_law_kind", "_law_label", "_law_due_here", "_law_rule", "_law_texts", "_law_kinds", "_law_k"] ["_law_found", "_law_kind", "_law_label", "_law_due_here"] (defScope s_law_good) := ⟨rfl, rfl, rfl, by decide +kernel, rfl, by decide +kernel, by decide +kernel⟩
def r_law_good : List Dt → Sum Cell Xc → Prop := fun ds a => ∃ (v_found : (List (Nat × Str × Str × (List Str)))) (v_kind : Int) (v_label : Str) (v_due_here : (List (List Str))), k_law_good v_found v_kind v_label v_due_here ∧ ds = [(e11_list v_found), (Dt.int v_kind), (Dt.str v_label), (e12_list v_due_here)] ∧ a = .inl (.fz (Dt.bl (m_law_good v_found v_kind v_label v_due_here)))
section
variable {P : Program} {w : World} {K : PySem.W.Frag} {mg : Str → Option Value} {base : Heap}
theorem run_law_good (T : Txt K mg)  {f : Addr} {cdv : Value} {A : Around} {outer : List PySem.Env} {s : Shared} {H : Hp} {E : XK} (hr : Room 0 (A.deeper (PyProof.Rows.envOfC "_law_good" (defScope s_law_good) s.heap.objs.size f cdv))) (v_found : (List (Nat × Str × Str × (List Str)))) (v_kind : Int) (v_label : Str) (v_due_here : (List (List Str))) (hk : k_law_good v_found v_kind v_label v_due_here) :
    Run (cxOf (L2.CX P w) P w K mg base ["_law_found", "_law_kind", "_law_label", "_law_due_here", "_law_rule", "_law_texts", "_law_kinds", "_law_k"] "_law_good" (defScope s_law_good) f cdv A outer s H E) K (wE E) sv0 (defBody s_law_good) (start0 ["_law_found", "_law_kind", "_law_label", "_law_due_here", "_law_rule", "_law_texts", "_law_kinds", "_law_k"] [(e11_list v_found), (Dt.int v_kind), (Dt.str v_label), (e12_list v_due_here)]) (.rt (.fz (Dt.bl (m_law_good v_found v_kind v_label v_due_here))) none) := by
  have h10 := hk
  refine run_gd (fun x : Bool => .rt (.fz (Dt.bl x)) none) false (loop (m_law_good_2 v_kind v_label) (fun y => y) (m_law_good_3) (List.zip v_found v_due_here) ()) (fun _ h => nomatch h) (eb_w (ebw_orF (eb_not (b := true) (eb_val (ex_isTy (n := "list") (fun _ => rfl) (xv 0 rfl) rfl (by decide +kernel : kitB "list" "list" = some true) (fun _ => rfl) (fun _ => T.n_isinstance) (fun _ => rfl) (fun _ => T.n_list) (by decide +kernel)))) (ebw_or1 (eb_cmp says_neI (x_len enc_Rule (fun _ => rfl) (EX.esL (xv 0 rfl)) (fun _ => rfl) (fun _ => T.n_len)) (x_len e0_list (fun _ => rfl) (EX.esL (xv 3 rfl)) (fun _ => rfl) (fun _ => T.n_len)))))) (fun hb => ?_) (fun hb => ?_)
  · exact run_ret ex_bl
  · have hk := h10 hb
    have h9 := hk
    refine run_forQ (js := [4, 5]) (P := (k_law_good_2 v_kind v_label)) (Q := (fun _ => True)) (s0 := ()) (fun z : ((Nat × Str × Str × (List Str)) × (List Str)) => Dt.tup [(enc_Rule z.1), (e0_list z.2)]) (fun v_st : (Unit) => [Zf (e11_list v_found), Zf (Dt.int v_kind), Zf (Dt.str v_label), Zf (e12_list v_due_here), none, none, none, none]) (fun (v_st : (Unit)) (v_it : ((Nat × Str × Str × (List Str)) × (List Str))) => [Zf (e11_list v_found), Zf (Dt.int v_kind), Zf (Dt.str v_label), Zf (e12_list v_due_here), Zf (enc_Rule v_it.1), Zf (e0_list v_it.2), none, none]) (fun x : Bool => .rt (.fz (Dt.bl x)) none) (m_law_good_2 v_kind v_label) (fun y => y) (m_law_good_3) (passes_of rfl) rfl (pg_tup (n := 2) rfl (pgs_cons (pg_name (i := 4) sc_law_good.nd rfl (by first | exact Or.inl rfl | exact Or.inr rfl)) (pgs_cons (pg_name (i := 5) sc_law_good.nd rfl (by first | exact Or.inl rfl | exact Or.inr rfl)) pgs_nil))) rfl (fun _ => trivial) (src_zip enc_Rule e0_list rfl rfl T.n_zip (xv 0 rfl) (xv 3 rfl)) (.keep (.keep (.keep (.keep (.keep (.keep (.keep (.keep .nil)))))))) (fun _ _ => (bd_tup (bdl_cons (bd_name (Nat.blt_eq.mp rfl)) (bdl_cons (bd_name (Nat.blt_eq.mp rfl)) bdl_nil)) rfl)) h9 (fun v_st v_it hm hk => ?_) (fun v_st _ => ?_)
    · have h8 := hk
      refine run_asgE (i := 6) [(ib_Rule_Sure v_it.1.1), (ib_Rule_Most v_it.1.1), (ib_Rule_Block v_it.1.1), (ib_Rule_Fact v_it.1.1)] (fun v_kinds => .fz (e13_list v_kinds)) (fun _ => _) (fun v_kinds => [Zf (e11_list v_found), Zf (Dt.int v_kind), Zf (Dt.str v_label), Zf (e12_list v_due_here), Zf (enc_Rule v_it.1), Zf (e0_list v_it.2), Zf (e13_list v_kinds), none]) (fun v_kinds => (Step.out (fun v_st : (Unit) => [Zf (e11_list v_found), Zf (Dt.int v_kind), Zf (Dt.str v_label), Zf (e12_list v_due_here), none, none, none, none]) (fun x : Bool => .rt (.fz (Dt.bl x)) none) (m_law_good_1 v_kind v_label v_it v_kinds))) (k_law_good_1 v_kind v_label v_it) (EX.ev (EN.frz (en_lst (ea_cons (ex_isOwn (fun _ => rfl) (T.cl_Rule _) (T.is_Rule_Sure _) (xv 4 rfl) (fun _ => rfl) (fun _ => T.n_isinstance) (fun _ => rfl) (fun _ => T.gc_Sure)) (ea_cons (ex_isOwn (fun _ => rfl) (T.cl_Rule _) (T.is_Rule_Most _) (xv 4 rfl) (fun _ => rfl) (fun _ => T.n_isinstance) (fun _ => rfl) (fun _ => T.gc_Most)) (ea_cons (ex_isOwn (fun _ => rfl) (T.cl_Rule _) (T.is_Rule_Block _) (xv 4 rfl) (fun _ => rfl) (fun _ => T.n_isinstance) (fun _ => rfl) (fun _ => T.gc_Block)) (ea_cons (ex_isOwn (fun _ => rfl) (T.cl_Rule _) (T.is_Rule_Fact _) (xv 4 rfl) (fun _ => rfl) (fun _ => T.n_isinstance) (fun _ => rfl) (fun _ => T.gc_Fact)) ea_nil)))) (Nat.le_of_ble_eq_true rfl)) rfl)) h8 sc_law_good.nd (fun _ => rfl) (fun v_kinds hk => ?_)
      obtain ⟨h4, h5, h6⟩ := hk
      refine run_gd (fun x : (Step (Unit) Bool) => x.out (fun v_st : (Unit) => [Zf (e11_list v_found), Zf (Dt.int v_kind), Zf (Dt.str v_label), Zf (e12_list v_due_here), none, none, none, none]) (fun x : Bool => .rt (.fz (Dt.bl x)) none)) (.fin false) (cond ((!(v_it.1.2.2.1 == (itm v_it.2 (0 : Int)))) || (!(v_it.1.2.2.2 == (cut v_it.2 (some (1 : Int)) none)))) (.fin false) (.nx ())) (fun _ h => nomatch h) (eb_w (ebw_or (eb_cmp (says_neD (fun _ => units_of hr) (fun _ => rfl) (EqT.d (f := e13_list) (eqt_lst eqt_bl) (by decide) v_kinds (List.map (fun v_item : Nat => ((v_item : Int) == v_kind)) (List.range (Int.toNat (4 : Int)))))) (xv 6 rfl) (EN.frz (EN.isL (x_lc (own := [("_law_k", 7)]) (fun i : Nat => Dt.int (i : Int)) (fun v_item : Nat => [Zf (e11_list v_found), Zf (Dt.int v_kind), Zf (Dt.str v_label), Zf (e12_list v_due_here), Zf (enc_Rule v_it.1), Zf (e0_list v_it.2), Zf (e13_list v_kinds), Zf (Dt.int (v_item : Int))]) (fun v_item : Nat => true) (fun v_item : Nat => (Dt.bl ((v_item : Int) == v_kind))) rfl sc_law_good.nd (src_range1 rfl T.n_range ex_int h4.1 h4.2) h5 (blkOk_by (by decide +kernel : blkC ["_law_found", "_law_kind", "_law_label", "_law_due_here", "_law_rule", "_law_texts", "_law_kinds", "_law_k"] (defScope s_law_good) _ [("_law_k", 7)] = true)) (by decide) (fun _ => (pg_name (i := 7) sc_law_good.nd rfl (by first | exact Or.inl rfl | exact Or.inr rfl))) (fun _ => (bd_name (Nat.blt_eq.mp rfl))) ⟨tYes, fun _ => pts_nil, fun _ _ F H σ fps Q E q => q F H (Up.refl E.sub)⟩ (fun v_item hm hp => (ex_cmp says_eqI (xv 7 rfl) (xv 1 rfl)))) (lcM_enc Dt.bl (fun v_item : Nat => ((v_item : Int) == v_kind)) (List.range (Int.toNat (4 : Int))))) rfl)) (fun hb7 => (ebw_or1 (eb_cmp says_neS (ex_fld (fun _ => rfl) (T.cl_Rule _) (T.na_Rule_label _) (xv 4 rfl) (lk_Rule_label _)) (xv 2 rfl)))))) (fun hb => ?_) (fun hb => ?_)
      · exact run_ret ex_bl
      · have hk := h6 hb
        have h1 := hk
        refine run_gd (fun x : (Step (Unit) Bool) => x.out (fun v_st : (Unit) => [Zf (e11_list v_found), Zf (Dt.int v_kind), Zf (Dt.str v_label), Zf (e12_list v_due_here), none, none, none, none]) (fun x : Bool => .rt (.fz (Dt.bl x)) none)) (.fin false) (.nx ()) (fun _ h => nomatch h) (eb_w (ebw_or (eb_cmp says_neS (ex_fld (fun _ => rfl) (T.cl_Rule _) (T.na_Rule_head _) (xv 4 rfl) (lk_Rule_head _)) (x_ix Dt.str (fun _ => rfl) (EX.esL (xv 5 rfl)) ex_int h1)) (fun hb2 => (ebw_orF (eb_not (b := true) (eb_val (ex_isTy (n := "tuple") (fun _ => rfl) (ex_fld (fun _ => rfl) (T.cl_Rule _) (T.na_Rule_body _) (xv 4 rfl) (lk_Rule_body _)) rfl (by decide +kernel : kitB "tuple" "tuple" = some true) (fun _ => rfl) (fun _ => T.n_isinstance) (fun _ => rfl) (fun _ => T.n_tuple) (by decide +kernel)))) (ebw_or1 (eb_cmp (says_neD (fun _ => units_of hr) (fun _ => rfl) (EqT.d (f := e0_list) (eqt_lst eqt_str) (by decide) v_it.1.2.2.2 (cut v_it.2 (some (1 : Int)) none))) (EN.frz (en_list (fun _ => rfl) (EX.esT (ex_fld (fun _ => rfl) (T.cl_Rule _) (T.na_Rule_body _) (xv 4 rfl) (lk_Rule_body _))) (fun _ => rfl) (fun _ => T.n_list)) rfl) (EN.frz (x_sliceL Dt.str (fun _ => rfl) (EX.esL (xv 5 rfl)) (eo_some ex_int) eo_none) rfl))))))) (fun hb => ?_) (fun hb => ?_)
        · exact run_ret ex_bl
        · exact run_end (.keep (.keep (.keep (.keep (.drop (.drop (.drop (.keep .nil))))))))
    · exact run_ret ex_bl
theorem ok_law_good (T : Txt K mg)  {f : Addr} {fd : FuncData} (F : FunD K "_law_good" "_law_good" (defArgs s_law_good) (defBody s_law_good) (defScope s_law_good) [] [] f fd) : FnOk P w K mg base (L2.CX P w) 1 f fd ["_law_found", "_law_kind", "_law_label", "_law_due_here"] (spR K 4 r_law_good) :=
  fnOk_mk F sc_law_good (fun cdv A outer s H E ds a hr hR hn => by
    obtain ⟨v_found, v_kind, v_label, v_due_here, hk, rfl, rfl⟩ := hR
    exact ⟨_, .rt _, run_law_good T  hr v_found v_kind v_label v_due_here hk⟩)
theorem mk_law_good (T : Txt K mg)  {f : Addr} {fd : FuncData} (F : FunD K "_law_good" "_law_good" (defArgs s_law_good) (defBody s_law_good) (defScope s_law_good) [] [] f fd) {x : Str} (gf : mg x = some (.ref f)) : Callee P w K mg base x 1 4 r_law_good :=
  ⟨f, fd, ["_law_found", "_law_kind", "_law_label", "_law_due_here"], ok_law_good T  F, gf, F.kp, FunD.bindsN F fun _ _ _ _ _ _ us hl => match us, hl with | [_, _, _, _], _ => rfl⟩
end
/-! law -/
def m_law_1 (v_things : (List Str)) (v_kind : Int) (v_label : Str) (v_texts : (List Str)) (v_rule : (Nat × Str × Str × (List Str))) (v_due_here : (List (List Str))) (v_found : (List (Nat × Str × Str × (List Str)))) : Bool := (cond ((!(m_law_good v_found v_kind v_label v_due_here)) || (!(v_things == v_things))) false ((m_law_good ((m_written_out v_rule v_things)) v_kind v_label v_due_here) && (m_law_good ([v_rule]) v_kind v_label ([v_texts]))))
def k_law_1 (v_things : (List Str)) (v_kind : Int) (v_label : Str) (v_texts : (List Str)) (v_rule : (Nat × Str × Str × (List Str))) (v_due_here : (List (List Str))) (v_found : (List (Nat × Str × Str × (List Str)))) : Prop := ((k_law_good v_found v_kind v_label v_due_here) ∧ (((!(m_law_good v_found v_kind v_label v_due_here)) || (!(v_things == v_things))) = false → ((k_written_out v_rule v_things) ∧ (k_law_good ((m_written_out v_rule v_things)) v_kind v_label v_due_here) ∧ ((m_law_good ((m_written_out v_rule v_things)) v_kind v_label v_due_here) = true → (k_law_good ([v_rule]) v_kind v_label ([v_texts]))))))
def m_law_2 (v_things : (List Str)) (v_kind : Int) (v_label : Str) (v_texts : (List Str)) (v_rule : (Nat × Str × Str × (List Str))) (v_due_here : (List (List Str))) : Bool := (m_law_1 v_things v_kind v_label v_texts v_rule v_due_here (m_written_out v_rule v_things))
def k_law_2 (v_things : (List Str)) (v_kind : Int) (v_label : Str) (v_texts : (List Str)) (v_rule : (Nat × Str × Str × (List Str))) (v_due_here : (List (List Str))) : Prop := ((k_written_out v_rule v_things) ∧ (k_law_1 v_things v_kind v_label v_texts v_rule v_due_here (m_written_out v_rule v_things)))
def m_law_3 (v_things : (List Str)) (v_kind : Int) (v_label : Str) (v_specs_here : (List (Str × Str × (List Str)))) (v_texts : (List Str)) (v_rule : (Nat × Str × Str × (List Str))) : Bool := (m_law_2 v_things v_kind v_label v_texts v_rule (m_law_due v_specs_here v_things))
def k_law_3 (v_things : (List Str)) (v_kind : Int) (v_label : Str) (v_specs_here : (List (Str × Str × (List Str)))) (v_texts : (List Str)) (v_rule : (Nat × Str × Str × (List Str))) : Prop := ((k_law_due v_specs_here v_things) ∧ (k_law_2 v_things v_kind v_label v_texts v_rule (m_law_due v_specs_here v_things)))
def m_law_4 (v_things : (List Str)) (v_kind : Int) (v_label : Str) (v_specs_here : (List (Str × Str × (List Str)))) (v_texts : (List Str)) : Bool := (m_law_3 v_things v_kind v_label v_specs_here v_texts (m_law_made v_kind v_label v_texts))
def k_law_4 (v_things : (List Str)) (v_kind : Int) (v_label : Str) (v_specs_here : (List (Str × Str × (List Str)))) (v_texts : (List Str)) : Prop := ((k_law_made v_kind v_label v_texts) ∧ (k_law_3 v_things v_kind v_label v_specs_here v_texts (m_law_made v_kind v_label v_texts)))
def m_law_5 (v_things : (List Str)) (v_kind : Int) (v_label : Str) (v_specs_here : (List (Str × Str × (List Str)))) : Bool := (m_law_4 v_things v_kind v_label v_specs_here (List.map (fun v_item : (Str × Str × (List Str)) => (m_law_text v_item ([]))) v_specs_here))
def k_law_5 (v_things : (List Str)) (v_kind : Int) (v_label : Str) (v_specs_here : (List (Str × Str × (List Str)))) : Prop := (((v_specs_here).length ≤ big) ∧ (∀ v_item ∈ v_specs_here, (k_law_text v_item ([]))) ∧ (k_law_4 v_things v_kind v_label v_specs_here (List.map (fun v_item : (Str × Str × (List Str)) => (m_law_text v_item ([]))) v_specs_here)))
def m_law_6 (v_script : (List Int)) (v_things : (List Str)) (v_names : (List Str)) (v_kind : Int) (v_label : Str) : Bool := (m_law_5 v_things v_kind v_label (m_law_specs v_script v_kind v_things v_names))
def k_law_6 (v_script : (List Int)) (v_things : (List Str)) (v_names : (List Str)) (v_kind : Int) (v_label : Str) : Prop := ((k_law_specs v_script v_kind v_things v_names) ∧ (k_law_5 v_things v_kind v_label (m_law_specs v_script v_kind v_things v_names)))
def m_law_7 (v_script : (List Int)) (v_things : (List Str)) (v_names : (List Str)) (v_kind : Int) : Bool := (m_law_6 v_script v_things v_names v_kind (itm [((Str.ofString "r") ++ (strI ((m_law_mix ((m_law_cell_at v_script ((1 : Int)))) ((41 : Int))) % ((10 : Int) ^ Int.toNat (7 : Int))))), (Str.ofString "")] (v_kind / (3 : Int))))
def k_law_7 (v_script : (List Int)) (v_things : (List Str)) (v_names : (List Str)) (v_kind : Int) : Prop := ((k_law_cell_at v_script ((1 : Int))) ∧ (k_law_mix ((m_law_cell_at v_script ((1 : Int)))) ((41 : Int))) ∧ (strIOk ((m_law_mix ((m_law_cell_at v_script ((1 : Int)))) ((41 : Int))) % ((10 : Int) ^ Int.toNat (7 : Int)))) ∧ (((Str.ofString "r")).length + ((strI ((m_law_mix ((m_law_cell_at v_script ((1 : Int)))) ((41 : Int))) % ((10 : Int) ^ Int.toNat (7 : Int))))).length ≤ bigS) ∧ (inI [((Str.ofString "r") ++ (strI ((m_law_mix ((m_law_cell_at v_script ((1 : Int)))) ((41 : Int))) % ((10 : Int) ^ Int.toNat (7 : Int))))), (Str.ofString "")] (v_kind / (3 : Int)) = true) ∧ (k_law_6 v_script v_things v_names v_kind (itm [((Str.ofString "r") ++ (strI ((m_law_mix ((m_law_cell_at v_script ((1 : Int)))) ((41 : Int))) % ((10 : Int) ^ Int.toNat (7 : Int))))), (Str.ofString "")] (v_kind / (3 : Int)))))
def m_law_8 (v_script : (List Int)) (v_things : (List Str)) (v_names : (List Str)) : Bool := (m_law_7 v_script v_things v_names ((m_law_cell_at v_script ((2 : Int))) % (4 : Int)))
def k_law_8 (v_script : (List Int)) (v_things : (List Str)) (v_names : (List Str)) : Prop := ((k_law_cell_at v_script ((2 : Int))) ∧ (k_law_7 v_script v_things v_names ((m_law_cell_at v_script ((2 : Int))) % (4 : Int))))
def m_law_9 (v_script : (List Int)) (v_things : (List Str)) : Bool := (m_law_8 v_script v_things (m_law_words ((m_law_cell_at v_script ((1 : Int)))) ((3 : Int))))
def k_law_9 (v_script : (List Int)) (v_things : (List Str)) : Prop := ((k_law_cell_at v_script ((1 : Int))) ∧ (k_law_words ((m_law_cell_at v_script ((1 : Int)))) ((3 : Int))) ∧ (k_law_8 v_script v_things (m_law_words ((m_law_cell_at v_script ((1 : Int)))) ((3 : Int)))))
def m_law (v_script : (List Int)) : Bool := (m_law_9 v_script (m_law_words ((m_law_cell_at v_script ((0 : Int)))) (((1 : Int) + ((m_law_mix ((m_law_cell_at v_script ((0 : Int)))) ((40 : Int))) % (8 : Int))))))
def k_law (v_script : (List Int)) : Prop := ((k_law_cell_at v_script ((0 : Int))) ∧ (k_law_cell_at v_script ((0 : Int))) ∧ (k_law_mix ((m_law_cell_at v_script ((0 : Int)))) ((40 : Int))) ∧ (k_law_words ((m_law_cell_at v_script ((0 : Int)))) (((1 : Int) + ((m_law_mix ((m_law_cell_at v_script ((0 : Int)))) ((40 : Int))) % (8 : Int))))) ∧ (k_law_9 v_script (m_law_words ((m_law_cell_at v_script ((0 : Int)))) (((1 : Int) + ((m_law_mix ((m_law_cell_at v_script ((0 : Int)))) ((40 : Int))) % (8 : Int)))))))
abbrev s_law : Stmt := top 37
theorem sc_law : FnScope ["_law_script", "_law_things", "_law_names", "_law_kind", "_law_label", "_law_specs_here", "_law_texts", "_law_rule", "_law_due_here", "_law_handed", "_law_found", "_law_spec"] ["_law_script"] (defScope s_law) := ⟨rfl, rfl, rfl, by decide +kernel, rfl, by decide +kernel, by decide +kernel⟩
def r_law : List Dt → Sum Cell Xc → Prop := fun ds a => ∃ (v_script : (List Int)), k_law v_script ∧ ds = [(e2_scr v_script)] ∧ a = .inl (.fz (Dt.bl (m_law v_script)))
section
variable {P : Program} {w : World} {K : PySem.W.Frag} {mg : Str → Option Value} {base : Heap}
theorem run_law (T : Txt K mg) (c_law_cell_at : Callee P w K mg base "_law_cell_at" 1 2 r_law_cell_at) (c_law_due : Callee P w K mg base "_law_due" 2 2 r_law_due) (c_law_good : Callee P w K mg base "_law_good" 1 4 r_law_good) (c_law_made : Callee P w K mg base "_law_made" 5 3 r_law_made) (c_law_mix : Callee P w K mg base "_law_mix" 1 2 r_law_mix) (c_law_specs : Callee P w K mg base "_law_specs" 2 4 r_law_specs) (c_law_text : Callee P w K mg base "_law_text" 1 2 r_law_text) (c_law_words : Callee P w K mg base "_law_words" 2 2 r_law_words) (c_written_out : Callee P w K mg base "written_out" 7 2 r_written_out) {f : Addr} {cdv : Value} {A : Around} {outer : List PySem.Env} {s : Shared} {H : Hp} {E : XK} (hr : Room 7 (A.deeper (PyProof.Rows.envOfC "law" (defScope s_law) s.heap.objs.size f cdv))) (v_script : (List Int)) (hk : k_law v_script) :
    Run (cxOf (L2.CX P w) P w K mg base ["_law_script", "_law_things", "_law_names", "_law_kind", "_law_label", "_law_specs_here", "_law_texts", "_law_rule", "_law_due_here", "_law_handed", "_law_found", "_law_spec"] "law" (defScope s_law) f cdv A outer s H E) K (wE E) sv0 (defBody s_law) (start0 ["_law_script", "_law_things", "_law_names", "_law_kind", "_law_label", "_law_specs_here", "_law_texts", "_law_rule", "_law_due_here", "_law_handed", "_law_found", "_law_spec"] [(e2_scr v_script)]) (.rt (.fz (Dt.bl (m_law v_script))) none) := by
  obtain ⟨h31, h32, h33, h34, h35⟩ := hk
  refine run_asgE (i := 1) (m_law_words ((m_law_cell_at v_script ((0 : Int)))) (((1 : Int) + ((m_law_mix ((m_law_cell_at v_script ((0 : Int)))) ((40 : Int))) % (8 : Int))))) (fun v_things => .fz (e0_list v_things)) (fun _ => _) (fun v_things => [Zf (e2_scr v_script), Zf (e0_list v_things), none, none, none, none, none, none, none, none, none, none]) (fun v_things => .rt (.fz (Dt.bl (m_law_9 v_script v_things))) none) (k_law_9 v_script) (EX.ev (EN.frz (en_call c_law_words (fun _ => ⟨rfl, rfl, rfl, rfl, rfl⟩) (fun _ => hr.mono (by decide)) (fun _ => rfl) (ea_cons (ex_call c_law_cell_at (fun _ => ⟨rfl, rfl, rfl, rfl, rfl⟩) (fun _ => hr.mono (by decide)) (fun _ => rfl) (ea_cons (xv 0 rfl) (ea_cons ex_int ea_nil)) rfl ⟨v_script, (0 : Int), h31, rfl, rfl⟩) (ea_cons (ex_add ex_int (ex_mod (ex_call c_law_mix (fun _ => ⟨rfl, rfl, rfl, rfl, rfl⟩) (fun _ => hr.mono (by decide)) (fun _ => rfl) (ea_cons (ex_call c_law_cell_at (fun _ => ⟨rfl, rfl, rfl, rfl, rfl⟩) (fun _ => hr.mono (by decide)) (fun _ => rfl) (ea_cons (xv 0 rfl) (ea_cons ex_int ea_nil)) rfl ⟨v_script, (0 : Int), h32, rfl, rfl⟩) (ea_cons ex_int ea_nil)) rfl ⟨(m_law_cell_at v_script ((0 : Int))), (40 : Int), h33, rfl, rfl⟩) ex_int (by decide))) ea_nil)) rfl ⟨(m_law_cell_at v_script ((0 : Int))), ((1 : Int) + ((m_law_mix ((m_law_cell_at v_script ((0 : Int)))) ((40 : Int))) % (8 : Int))), h34, rfl, rfl⟩) rfl)) h35 sc_law.nd (fun _ => rfl) (fun v_things hk => ?_)
  obtain ⟨h28, h29, h30⟩ := hk
  refine run_asgE (i := 2) (m_law_words ((m_law_cell_at v_script ((1 : Int)))) ((3 : Int))) (fun v_names => .fz (e0_list v_names)) (fun _ => _) (fun v_names => [Zf (e2_scr v_script), Zf (e0_list v_things), Zf (e0_list v_names), none, none, none, none, none, none, none, none, none]) (fun v_names => .rt (.fz (Dt.bl (m_law_8 v_script v_things v_names))) none) (k_law_8 v_script v_things) (EX.ev (EN.frz (en_call c_law_words (fun _ => ⟨rfl, rfl, rfl, rfl, rfl⟩) (fun _ => hr.mono (by decide)) (fun _ => rfl) (ea_cons (ex_call c_law_cell_at (fun _ => ⟨rfl, rfl, rfl, rfl, rfl⟩) (fun _ => hr.mono (by decide)) (fun _ => rfl) (ea_cons (xv 0 rfl) (ea_cons ex_int ea_nil)) rfl ⟨v_script, (1 : Int), h28, rfl, rfl⟩) (ea_cons ex_int ea_nil)) rfl ⟨(m_law_cell_at v_script ((1 : Int))), (3 : Int), h29, rfl, rfl⟩) rfl)) h30 sc_law.nd (fun _ => rfl) (fun v_names hk => ?_)
  obtain ⟨h26, h27⟩ := hk
  refine run_asgE (i := 3) ((m_law_cell_at v_script ((2 : Int))) % (4 : Int)) (fun v_kind => .fz (Dt.int v_kind)) (fun _ => _) (fun v_kind => [Zf (e2_scr v_script), Zf (e0_list v_things), Zf (e0_list v_names), Zf (Dt.int v_kind), none, none, none, none, none, none, none, none]) (fun v_kind => .rt (.fz (Dt.bl (m_law_7 v_script v_things v_names v_kind))) none) (k_law_7 v_script v_things v_names) (EX.ev (ex_mod (ex_call c_law_cell_at (fun _ => ⟨rfl, rfl, rfl, rfl, rfl⟩) (fun _ => hr.mono (by decide)) (fun _ => rfl) (ea_cons (xv 0 rfl) (ea_cons ex_int ea_nil)) rfl ⟨v_script, (2 : Int), h26, rfl, rfl⟩) ex_int (by decide))) h27 sc_law.nd (fun _ => rfl) (fun v_kind hk => ?_)
  obtain ⟨h20, h21, h22, h23, h24, h25⟩ := hk
  refine run_asgE (i := 4) (itm [((Str.ofString "r") ++ (strI ((m_law_mix ((m_law_cell_at v_script ((1 : Int)))) ((41 : Int))) % ((10 : Int) ^ Int.toNat (7 : Int))))), (Str.ofString "")] (v_kind / (3 : Int))) (fun v_label => .fz (Dt.str v_label)) (fun _ => _) (fun v_label => [Zf (e2_scr v_script), Zf (e0_list v_things), Zf (e0_list v_names), Zf (Dt.int v_kind), Zf (Dt.str v_label), none, none, none, none, none, none, none]) (fun v_label => .rt (.fz (Dt.bl (m_law_6 v_script v_things v_names v_kind v_label))) none) (k_law_6 v_script v_things v_names v_kind) (EX.ev (x_ix Dt.str (fun _ => rfl) (EN.es (en_lst (ea_cons (ex_cat (ex_str (h := by decide +kernel)) (ex_strI (ex_mod (ex_call c_law_mix (fun _ => ⟨rfl, rfl, rfl, rfl, rfl⟩) (fun _ => hr.mono (by decide)) (fun _ => rfl) (ea_cons (ex_call c_law_cell_at (fun _ => ⟨rfl, rfl, rfl, rfl, rfl⟩) (fun _ => hr.mono (by decide)) (fun _ => rfl) (ea_cons (xv 0 rfl) (ea_cons ex_int ea_nil)) rfl ⟨v_script, (1 : Int), h20, rfl, rfl⟩) (ea_cons ex_int ea_nil)) rfl ⟨(m_law_cell_at v_script ((1 : Int))), (41 : Int), h21, rfl, rfl⟩) (ex_pow ex_int ex_int ⟨by decide, by decide, by decide⟩) (by decide)) h22 (fun _ => rfl) (fun _ => T.n_str)) h23) (ea_cons (ex_str (h := by decide +kernel)) ea_nil)) (Nat.le_of_ble_eq_true rfl))) (ex_fdiv (xv 3 rfl) ex_int ⟨by decide, by decide⟩) h24)) h25 sc_law.nd (fun _ => rfl) (fun v_label hk => ?_)
  obtain ⟨h18, h19⟩ := hk
  refine run_asgE (i := 5) (m_law_specs v_script v_kind v_things v_names) (fun v_specs_here => .fz (e5_list v_specs_here)) (fun _ => _) (fun v_specs_here => [Zf (e2_scr v_script), Zf (e0_list v_things), Zf (e0_list v_names), Zf (Dt.int v_kind), Zf (Dt.str v_label), Zf (e5_list v_specs_here), none, none, none, none, none, none]) (fun v_specs_here => .rt (.fz (Dt.bl (m_law_5 v_things v_kind v_label v_specs_here))) none) (k_law_5 v_things v_kind v_label) (EX.ev (EN.frz (en_call c_law_specs (fun _ => ⟨rfl, rfl, rfl, rfl, rfl⟩) (fun _ => hr.mono (by decide)) (fun _ => rfl) (ea_cons (xv 0 rfl) (ea_cons (xv 3 rfl) (ea_cons (xv 1 rfl) (ea_cons (xv 2 rfl) ea_nil)))) rfl ⟨v_script, v_kind, v_things, v_names, h18, rfl, rfl⟩) rfl)) h19 sc_law.nd (fun _ => rfl) (fun v_specs_here hk => ?_)
  obtain ⟨h15, h16, h17⟩ := hk
  refine run_asgLc (i := 6) (v := (List.map (fun v_item : (Str × Str × (List Str)) => (m_law_text v_item ([]))) v_specs_here)) (fun z : (List Str) => List.map Dt.str z) (fun v_texts => [Zf (e2_scr v_script), Zf (e0_list v_things), Zf (e0_list v_names), Zf (Dt.int v_kind), Zf (Dt.str v_label), Zf (e5_list v_specs_here), some (.ol (List.map Dt.str v_texts)), none, none, none, none, none]) (fun v_texts => .rt (.fz (Dt.bl (m_law_4 v_things v_kind v_label v_specs_here v_texts))) none) (k_law_4 v_things v_kind v_label v_specs_here) (own := [("_law_spec", 11)]) e1_tup (fun v_item : (Str × Str × (List Str)) => [Zf (e2_scr v_script), Zf (e0_list v_things), Zf (e0_list v_names), Zf (Dt.int v_kind), Zf (Dt.str v_label), Zf (e5_list v_specs_here), none, none, none, none, none, Zf (e1_tup v_item)]) (fun v_item : (Str × Str × (List Str)) => true) (fun v_item : (Str × Str × (List Str)) => (Dt.str (m_law_text v_item ([])))) rfl sc_law.nd (src_list rfl (xv 5 rfl)) h15 (blkOk_by (by decide +kernel : blkC ["_law_script", "_law_things", "_law_names", "_law_kind", "_law_label", "_law_specs_here", "_law_texts", "_law_rule", "_law_due_here", "_law_handed", "_law_found", "_law_spec"] (defScope s_law) _ [("_law_spec", 11)] = true)) (by decide) (fun _ => (pg_name (i := 11) sc_law.nd rfl (by first | exact Or.inl rfl | exact Or.inr rfl))) (fun _ => (bd_name (Nat.blt_eq.mp rfl))) ⟨tYes, fun _ => pts_nil, fun _ _ F H σ fps Q E q => q F H (Up.refl E.sub)⟩ (fun v_item hm hp => (ex_call c_law_text (fun _ => ⟨rfl, rfl, rfl, rfl, rfl⟩) (fun _ => hr.mono (by decide)) (fun _ => rfl) (ea_cons (xv 11 rfl) (ea_cons (EN.frz en_dic0 rfl) ea_nil)) rfl ⟨v_item, [], (h16 v_item hm), rfl, rfl⟩)) (lcM_enc Dt.str (fun v_item : (Str × Str × (List Str)) => (m_law_text v_item ([]))) v_specs_here).symm h17 (fun v_texts hk => ?_) rfl rfl (Nat.blt_eq.mp rfl) rfl (sw_true rfl rfl rfl (by decide +kernel)) (fun _ => rfl)
  obtain ⟨h13, h14⟩ := hk
  refine run_asgE (i := 7) (m_law_made v_kind v_label v_texts) (fun v_rule => .fz (enc_Rule v_rule)) (fun _ => _) (fun v_rule => [Zf (e2_scr v_script), Zf (e0_list v_things), Zf (e0_list v_names), Zf (Dt.int v_kind), Zf (Dt.str v_label), Zf (e5_list v_specs_here), some (.ol (List.map Dt.str v_texts)), Zf (enc_Rule v_rule), none, none, none, none]) (fun v_rule => .rt (.fz (Dt.bl (m_law_3 v_things v_kind v_label v_specs_here v_texts v_rule))) none) (k_law_3 v_things v_kind v_label v_specs_here v_texts) (EX.ev (ex_call c_law_made (fun _ => ⟨rfl, rfl, rfl, rfl, rfl⟩) (fun _ => hr.mono (by decide)) (fun _ => rfl) (ea_cons (xv 3 rfl) (ea_cons (xv 4 rfl) (ea_cons (EN.frz (en_list (fun _ => rfl) (EP.es (pp 6 rfl) rfl) (fun _ => rfl) (fun _ => T.n_list)) rfl) ea_nil))) rfl ⟨v_kind, v_label, v_texts, h13, rfl, rfl⟩)) h14 sc_law.nd (fun _ => rfl) (fun v_rule hk => ?_)
  obtain ⟨h11, h12⟩ := hk
  refine run_asgE (i := 8) (m_law_due v_specs_here v_things) (fun v_due_here => .fz (e12_list v_due_here)) (fun _ => _) (fun v_due_here => [Zf (e2_scr v_script), Zf (e0_list v_things), Zf (e0_list v_names), Zf (Dt.int v_kind), Zf (Dt.str v_label), Zf (e5_list v_specs_here), some (.ol (List.map Dt.str v_texts)), Zf (enc_Rule v_rule), Zf (e12_list v_due_here), none, none, none]) (fun v_due_here => .rt (.fz (Dt.bl (m_law_2 v_things v_kind v_label v_texts v_rule v_due_here))) none) (k_law_2 v_things v_kind v_label v_texts v_rule) (EX.ev (EN.frz (en_call c_law_due (fun _ => ⟨rfl, rfl, rfl, rfl, rfl⟩) (fun _ => hr.mono (by decide)) (fun _ => rfl) (ea_cons (xv 5 rfl) (ea_cons (xv 1 rfl) ea_nil)) rfl ⟨v_specs_here, v_things, h11, rfl, rfl⟩) rfl)) h12 sc_law.nd (fun _ => rfl) (fun v_due_here hk => ?_)
  have h10 := hk
  refine run_asgQ (i := 9) (Gk := [Zf (e2_scr v_script), Zf (e0_list v_things), Zf (e0_list v_names), Zf (Dt.int v_kind), Zf (Dt.str v_label), Zf (e5_list v_specs_here), some (.ol (List.map Dt.str v_texts)), Zf (enc_Rule v_rule), Zf (e12_list v_due_here), Zf (e0_list v_things), none, none]) (EX.ev (EN.frz (en_list (fun _ => rfl) (EX.esL (xv 1 rfl)) (fun _ => rfl) (fun _ => T.n_list)) rfl)) sc_law.nd rfl ?_
  have hk := h10
  obtain ⟨h8, h9⟩ := hk
  refine run_asgE (i := 10) (m_written_out v_rule v_things) (fun v_found => .ol (List.map enc_Rule v_found)) (fun _ => _) (fun v_found => [Zf (e2_scr v_script), Zf (e0_list v_things), Zf (e0_list v_names), Zf (Dt.int v_kind), Zf (Dt.str v_label), Zf (e5_list v_specs_here), some (.ol (List.map Dt.str v_texts)), Zf (enc_Rule v_rule), Zf (e12_list v_due_here), Zf (e0_list v_things), some (.ol (List.map enc_Rule v_found)), none]) (fun v_found => .rt (.fz (Dt.bl (m_law_1 v_things v_kind v_label v_texts v_rule v_due_here v_found))) none) (k_law_1 v_things v_kind v_label v_texts v_rule v_due_here) (EN.ev (en_call c_written_out (fun _ => ⟨rfl, rfl, rfl, rfl, rfl⟩) (fun _ => hr.mono (by decide)) (fun _ => rfl) (ea_cons (xv 7 rfl) (ea_cons (xv 9 rfl) ea_nil)) rfl ⟨v_rule, v_things, h8, rfl, rfl⟩)) h9 sc_law.nd (fun _ => rfl) (fun v_found hk => ?_)
  obtain ⟨h5, h6⟩ := hk
  refine run_gd (fun x : Bool => .rt (.fz (Dt.bl x)) none) false ((m_law_good ((m_written_out v_rule v_things)) v_kind v_label v_due_here) && (m_law_good ([v_rule]) v_kind v_label ([v_texts]))) (fun _ h => nomatch h) (eb_w (ebw_or (eb_not (eb_val (thaw 10 [] rfl rfl rfl rfl (ex_call c_law_good (fun _ => ⟨rfl, rfl, rfl, rfl, rfl⟩) (fun _ => hr.mono (by decide)) (fun _ => rfl) (ea_cons (xv 10 rfl) (ea_cons (xv 3 rfl) (ea_cons (xv 4 rfl) (ea_cons (xv 8 rfl) ea_nil)))) rfl ⟨v_found, v_kind, v_label, v_due_here, h5, rfl, rfl⟩) (nol_bl _)))) (fun hb7 => (ebw_or1 (eb_cmp (says_neD (fun _ => units_of hr) (fun _ => rfl) (EqT.d (f := e0_list) (eqt_lst eqt_str) (by decide) v_things v_things)) (xv 9 rfl) (xv 1 rfl)))))) (fun hb => ?_) (fun hb => ?_)
  · exact run_ret ex_bl
  · have hk := h6 hb
    refine run_clear (i := 10) (π := []) (G' := [Zf (e2_scr v_script), Zf (e0_list v_things), Zf (e0_list v_names), Zf (Dt.int v_kind), Zf (Dt.str v_label), Zf (e5_list v_specs_here), some (.ol (List.map Dt.str v_texts)), Zf (enc_Rule v_rule), Zf (e12_list v_due_here), Zf (e0_list v_things), some (.ol (List.map enc_Rule ([] : (List (Nat × Str × Str × (List Str)))))), none]) rfl (pp 10 rfl) rfl rfl ?_
    obtain ⟨h1, h2, h3⟩ := hk
    exact run_ret (ex_and (ex_call c_law_good (fun _ => ⟨rfl, rfl, rfl, rfl, rfl⟩) (fun _ => hr.mono (by decide)) (fun _ => rfl) (ea_cons (EN.frz (en_call c_written_out (fun _ => ⟨rfl, rfl, rfl, rfl, rfl⟩) (fun _ => hr.mono (by decide)) (fun _ => rfl) (ea_cons (xv 7 rfl) (ea_cons (xv 9 rfl) ea_nil)) rfl ⟨v_rule, v_things, h1, rfl, rfl⟩) rfl) (ea_cons (xv 3 rfl) (ea_cons (xv 4 rfl) (ea_cons (xv 8 rfl) ea_nil)))) rfl ⟨(m_written_out v_rule v_things), v_kind, v_label, v_due_here, h2, rfl, rfl⟩) (fun hb4 => (ex_one (thaw 6 [] rfl rfl rfl rfl (ex_call c_law_good (fun _ => ⟨rfl, rfl, rfl, rfl, rfl⟩) (fun _ => hr.mono (by decide)) (fun _ => rfl) (ea_cons (EN.frz (en_lst (ea_cons (xv 7 rfl) ea_nil) (Nat.le_of_ble_eq_true rfl)) rfl) (ea_cons (xv 3 rfl) (ea_cons (xv 4 rfl) (ea_cons (EN.frz (en_lst (ea_cons (xv 6 rfl) ea_nil) (Nat.le_of_ble_eq_true rfl)) rfl) ea_nil)))) rfl ⟨[v_rule], v_kind, v_label, [v_texts], (h3 hb4), rfl, rfl⟩) (nol_bl _)))))
theorem ok_law (T : Txt K mg) (c_law_cell_at : Callee P w K mg base "_law_cell_at" 1 2 r_law_cell_at) (c_law_due : Callee P w K mg base "_law_due" 2 2 r_law_due) (c_law_good : Callee P w K mg base "_law_good" 1 4 r_law_good) (c_law_made : Callee P w K mg base "_law_made" 5 3 r_law_made) (c_law_mix : Callee P w K mg base "_law_mix" 1 2 r_law_mix) (c_law_specs : Callee P w K mg base "_law_specs" 2 4 r_law_specs) (c_law_text : Callee P w K mg base "_law_text" 1 2 r_law_text) (c_law_words : Callee P w K mg base "_law_words" 2 2 r_law_words) (c_written_out : Callee P w K mg base "written_out" 7 2 r_written_out) {f : Addr} {fd : FuncData} (F : FunD K "law" "law" (defArgs s_law) (defBody s_law) (defScope s_law) [] [] f fd) : FnOk P w K mg base (L2.CX P w) 8 f fd ["_law_script"] (spR K 1 r_law) :=
  fnOk_mk F sc_law (fun cdv A outer s H E ds a hr hR hn => by
    obtain ⟨v_script, hk, rfl, rfl⟩ := hR
    exact ⟨_, .rt _, run_law T c_law_cell_at c_law_due c_law_good c_law_made c_law_mix c_law_specs c_law_text c_law_words c_written_out hr v_script hk⟩)
theorem mk_law (T : Txt K mg) (c_law_cell_at : Callee P w K mg base "_law_cell_at" 1 2 r_law_cell_at) (c_law_due : Callee P w K mg base "_law_due" 2 2 r_law_due) (c_law_good : Callee P w K mg base "_law_good" 1 4 r_law_good) (c_law_made : Callee P w K mg base "_law_made" 5 3 r_law_made) (c_law_mix : Callee P w K mg base "_law_mix" 1 2 r_law_mix) (c_law_specs : Callee P w K mg base "_law_specs" 2 4 r_law_specs) (c_law_text : Callee P w K mg base "_law_text" 1 2 r_law_text) (c_law_words : Callee P w K mg base "_law_words" 2 2 r_law_words) (c_written_out : Callee P w K mg base "written_out" 7 2 r_written_out) {f : Addr} {fd : FuncData} (F : FunD K "law" "law" (defArgs s_law) (defBody s_law) (defScope s_law) [] [] f fd) {x : Str} (gf : mg x = some (.ref f)) : Callee P w K mg base x 8 1 r_law :=
  ⟨f, fd, ["_law_script"], ok_law T c_law_cell_at c_law_due c_law_good c_law_made c_law_mix c_law_specs c_law_text c_law_words c_written_out F, gf, F.kp, FunD.bindsN F fun _ _ _ _ _ _ us hl => match us, hl with | [_], _ => rfl⟩
end
end Lw

namespace Lw
open PySem PySem.Spec L2 Vs TL
theorem side_ok {n : Int} (h0 : 0 ≤ n) (h2 : n < 2) : inI [(Str.ofString ""), (Str.ofString "-")] n = true ∧ Sd (itm [(Str.ofString ""), (Str.ofString "-")] n) := by
  refine ⟨inI_nn h0 h2, ?_⟩
  rw [itm_nn (xs := [(Str.ofString ""), (Str.ofString "-")]) h0 h2]
  have h : n.toNat < 2 := by omega
  generalize n.toNat = j at h
  rcases j with _ | _ | j
  · exact .inl rfl
  · exact .inr rfl
  · omega
theorem big27 {n : Nat} (h : n ≤ 30) : n ≤ bigS := by show n ≤ 900000; omega
/-! the parts -/
theorem mo_eq (s t : Str) : m_is_made_of_s s t = (decide (1 ≤ s.length) && decide (s.length ≤ 8) && allIn s t) := by
  unfold m_is_made_of_s
  rw [loop_all (p := fun c => !decide (c ∈ t.cps.toList)) (y := false) (fun _ => rfl)]
  have e : (s.cps.toList.any fun c => !decide (c ∈ t.cps.toList)) = !allIn s t := by
    unfold allIn
    rw [List.any_eq_not_all_not]
    simp
  rw [e]
  have e1 : decide ((1 : Int) ≤ (s.length : Int)) = decide (1 ≤ s.length) := by
    apply decide_eq_decide.mpr; omega
  have e2 : decide ((s.length : Int) ≤ (8 : Int)) = decide (s.length ≤ 8) := by
    apply decide_eq_decide.mpr; omega
  rw [e1, e2]
  cases decide (1 ≤ s.length) <;> cases decide (s.length ≤ 8) <;> cases allIn s t <;> rfl
theorem name_yes {s : Str} (h : Wd s) : m_is_name_s s = true := by
  unfold m_is_name_s
  have e := mo_eq s smT
  have h1 := h.ne
  have h2 := h.le
  rw [← len_tl] at h1 h2
  rw [decide_eq_true h1, decide_eq_true h2, allIn_sm h] at e
  exact e
theorem letter_yes {s : Str} (h : Lt s) : m_is_letter_s s = true := by
  obtain ⟨c, hc, rfl⟩ := h
  unfold m_is_letter_s
  have e := great_letter c hc
  show (((1 : Nat) : Int) == 1 && inS _ grT) = true
  rw [e]
  rfl
theorem place_yes {s : Str} (h : Pl s) : ((!m_is_name_s s) && (!m_is_letter_s s)) = false := by
  rcases h with h | h
  · rw [name_yes h]; rfl
  · rw [letter_yes h]; cases m_is_name_s s <;> rfl
theorem places_ok {ps : List Str} (h2 : ps.length ≤ 2) (hp : ∀ x ∈ ps, Pl x) : m_places_of (tailT ps) = some ps := by
  cases ps with
  | nil => rfl
  | cons p r =>
    show m_places_of (inside (p :: r)) = _
    unfold m_places_of m_places_of_3
    rw [inside_ne, ends_inside, cut_inside, split_places (by simp) hp]
    have e : decide ((2 : Int) < ((p :: r).length : Int)) = false := decide_eq_false (by omega)
    rw [e, loop_all (p := fun s => (!m_is_name_s s) && (!m_is_letter_s s)) (y := none) (fun _ => rfl)]
    have e2 : ((p :: r).any fun s => (!m_is_name_s s) && (!m_is_letter_s s)) = false := by
      rw [List.any_eq_false]
      intro x hx
      rw [place_yes (hp x hx)]; simp
    rw [e2]
    rfl
theorem parts_rest {s n : Str} {ps : List Str} (hw : Wd n) (h2 : ps.length ≤ 2) (hp0 : ∀ x ∈ ps, Pl x) : k_parts_of_5 (s, bare n ps) ∧ m_parts_of_5 (s, bare n ps) = (s, n, ps) := by
  have hp := places_ok h2 hp0
  have hn := name_yes hw
  unfold k_parts_of_5 m_parts_of_5
  show k_parts_of_4 _ (Txt.partition (bare n ps) _) ∧ m_parts_of_4 _ (Txt.partition (bare n ps) _) = _
  rw [bare_part hw]
  unfold k_parts_of_4 m_parts_of_4
  show k_parts_of_3 _ _ (m_places_of (tailT ps)) ∧ m_parts_of_3 _ _ (m_places_of (tailT ps)) = _
  rw [hp]
  unfold k_parts_of_3 m_parts_of_3
  have hn' : m_is_name_s n = true := hn
  have e := open_tail ps
  simp only [hn', e, isNo, beq_self_eq_true, Bool.not_true, Bool.or_false, Option.isNone_some, Bool.false_or]
  exact ⟨⟨(fun hb => nomatch hb), fun _ => trivial⟩, rfl⟩
theorem parts_ok {p : Str × Str × List Str} (h : St p) : k_parts_of (stT p) ∧ m_parts_of (stT p) = p := by
  obtain ⟨s, n, ps⟩ := p
  rcases h.sd with hs | hs
  · have hs' : s = Str.ofString "" := hs
    subst hs'
    rw [stT_none]
    unfold k_parts_of m_parts_of
    rw [bare_no h.wd, cond_false]
    exact parts_rest h.wd h.two h.pl
  · have hs' : s = Str.ofString "-" := hs
    subst hs'
    rw [stT_minus]
    unfold k_parts_of m_parts_of m_parts_of_2
    rw [minus_yes, minus_cut, cond_true]
    exact parts_rest h.wd h.two h.pl
theorem text_of_ok {p : Str × Str × List Str} (h : St p) : k_text_of p.1 p.2.1 p.2.2 ∧ m_text_of p.1 p.2.1 p.2.2 = stT p := by
  obtain ⟨s, n, ps⟩ := p
  have hs : s.length ≤ 1 := sd_len h.sd
  have hn : n.length ≤ 8 := name_len h.wd
  have h2 : ps.length ≤ 2 := h.two
  have hp : ∀ x ∈ ps, Pl x := h.pl
  have c1 := ch_len "(" (n := 1) rfl
  have c2 := ch_len ")" (n := 1) rfl
  have c3 := ch_len "," (n := 1) rfl
  have hj := join_len h2 hp
  have hjo : joinOk (Str.ofString ",") ps := by
    have hs : (ps.map Str.length).sum ≤ 16 := by
      rcases ps with _ | ⟨p, _ | ⟨q, _ | ⟨r, t⟩⟩⟩
      · show 0 ≤ 16; omega
      · have hl := (hp p (by simp)).len
        rw [← len_tl] at hl
        simp only [List.map_cons, List.map_nil, List.sum_cons, List.sum_nil]; omega
      · have hl := (hp p (by simp)).len
        have hl2 := (hp q (by simp)).len
        rw [← len_tl] at hl hl2
        simp only [List.map_cons, List.map_nil, List.sum_cons, List.sum_nil]; omega
      · simp at h2
    unfold joinOk
    rw [c3]
    show _ ≤ 900000
    have : (ps.map (·.length)).sum ≤ 16 := hs
    omega
  unfold k_text_of m_text_of stT
  dsimp only
  simp only [len_app, c1, c2]
  refine ⟨⟨fun _ => big27 (by omega), fun _ => ⟨big27 (by omega), big27 (by omega), hjo, big27 (by omega), big27 (by omega)⟩⟩, ?_⟩
  cases ps with
  | nil => rfl
  | cons p r =>
    show s ++ n ++ Str.ofString "(" ++ Txt.join (Str.ofString ",") (p :: r) ++ Str.ofString ")" = s ++ (n ++ Str.ofString "(" ++ (Txt.join (Str.ofString ",") (p :: r) ++ Str.ofString ")"))
    simp only [app_asc]
/-! filling -/
def GivenW (kvs : List (Str × Str)) : Prop := ∀ z ∈ kvs, Wd z.2
theorem gets_mem {kvs : List (Str × Str)} {k v : Str} (h : gets kvs k = some v) : (k, v) ∈ kvs := by
  induction kvs with
  | nil => cases h
  | cons p r ih =>
    unfold gets at h
    split at h
    · rename_i e
      cases h
      rw [← e]; simp
    · exact List.mem_cons_of_mem _ (ih h)
def fillP (g : List (Str × Str)) (p : Str × Str × List Str) : Str × Str × List Str := (p.1, p.2.1, p.2.2.map fun x => (gets g x).getD x)
theorem fill_st {g : List (Str × Str)} (hg : GivenW g) {p : Str × Str × List Str} (h : St p) : St (fillP g p) := by
  refine ⟨h.sd, h.wd, by show (List.map _ _).length ≤ 2; rw [List.length_map]; exact h.two, fun x hx => ?_⟩
  obtain ⟨y, hy, rfl⟩ := List.mem_map.mp hx
  cases e : gets g y with
  | none => exact h.pl y hy
  | some v => exact .inl (hg _ (gets_mem e))
theorem filled_ok {g : List (Str × Str)} (hg : GivenW g) {p : Str × Str × List Str} (h : St p) : k_filled (stT p) g ∧ m_filled (stT p) g = stT (fillP g p) := by
  obtain ⟨q1, q2⟩ := parts_ok h
  have h2 := h.two
  obtain ⟨x1, x2⟩ := text_of_ok (fill_st hg h)
  unfold k_filled m_filled
  rw [q2]
  unfold k_filled_1 m_filled_1
  exact ⟨⟨q1, by show _ ≤ 1000000; omega, x1⟩, x2⟩
/-! the letters -/
def ap (s : List Str) (x : Str) : List Str := cond (!(List.elem x s)) (s ++ [x]) s
def isL (x : Str) : Bool := m_is_letter_s x
def apL (s : List Str) (x : Str) : List Str := cond (isL x) (ap s x) s
theorem ap_len (s : List Str) (x : Str) : (ap s x).length ≤ s.length + 1 := by
  unfold ap
  cases !(List.elem x s)
  · show s.length ≤ _; omega
  · show (s ++ [x]).length ≤ _; simp
theorem apL_len (s : List Str) (x : Str) : (apL s x).length ≤ s.length + 1 := by
  unfold apL
  cases isL x
  · show s.length ≤ _; omega
  · exact ap_len s x
theorem mem_ap {s : List Str} {x y : Str} (h : y ∈ s) : y ∈ ap s x := by
  unfold ap
  cases !(List.elem x s)
  · exact h
  · exact List.mem_append_left _ h
theorem mem_ap_self (s : List Str) (x : Str) : x ∈ ap s x := by
  unfold ap
  cases e : !(List.elem x s)
  · have : List.elem x s = true := by simpa using e
    exact List.elem_iff.mp this
  · show x ∈ s ++ [x]
    simp
theorem mem_fold_keep : ∀ (xs : List Str) {s : List Str} {y : Str}, y ∈ s → y ∈ xs.foldl ap s
  | [], _, _, h => h
  | x :: xs, _, _, h => mem_fold_keep xs (mem_ap h)
theorem mem_fold : ∀ (xs : List Str) {s : List Str} {y : Str}, y ∈ xs → y ∈ xs.foldl ap s
  | [], _, _, h => nomatch h
  | x :: xs, s, y, h => by
    rcases List.mem_cons.mp h with rfl | h
    · exact mem_fold_keep xs (mem_ap_self s y)
    · exact mem_fold xs h
theorem ap_there {s : List Str} {x : Str} (h : x ∈ s) : ap s x = s := by
  unfold ap
  rw [List.elem_iff.mpr h]; rfl
theorem fold_ap (s acc : List Str) (x : Str) : (ap acc x).foldl ap s = ap (acc.foldl ap s) x := by
  by_cases h : x ∈ acc
  · rw [ap_there h, ap_there (mem_fold acc h)]
  · have e : ap acc x = acc ++ [x] := by
      unfold ap
      have : List.elem x acc = false := by
        cases q : List.elem x acc with
        | false => rfl
        | true => exact absurd (List.elem_iff.mp q) h
      rw [this]; rfl
    rw [e, List.foldl_append]; rfl
theorem fold_apL (s : List Str) : ∀ (xs acc : List Str), (xs.foldl apL acc).foldl ap s = xs.foldl apL (acc.foldl ap s)
  | [], _ => rfl
  | x :: xs, acc => by
    rw [List.foldl_cons, List.foldl_cons, fold_apL s xs]
    congr 1
    unfold apL
    cases isL x
    · rfl
    · exact fold_ap s acc x
theorem fold_loop {A R T : Type} {step : List Str → A → Step (List Str) R} {io : R → T} {k : List Str → T} {P : List Str → A → Prop} {Q : List Str → Prop} (h : List Str → A → List Str) (g B : Nat) : ∀ (xs : List A) (s : List Str), s.length + g * xs.length ≤ B →
    (∀ s x, x ∈ xs → s.length + g ≤ B → P s x ∧ step s x = .nx (h s x) ∧ (h s x).length ≤ s.length + g) → Q (xs.foldl h s) → LoopAll P Q step xs s ∧ loop step io k xs s = k (xs.foldl h s) ∧ (xs.foldl h s).length ≤ s.length + g * xs.length
  | [], s, _, _, hq => ⟨hq, rfl, by simp⟩
  | x :: xs, s, hB, hs, hq => by
    have hm : g * (x :: xs).length = g * xs.length + g := by rw [List.length_cons, Nat.mul_succ]
    rw [hm] at hB
    obtain ⟨p, e, l⟩ := hs s x (by simp) (by omega)
    obtain ⟨a, b, c⟩ := fold_loop (step := step) (io := io) (k := k) (P := P) (Q := Q) h g B xs (h s x) (by omega) (fun s y hy => hs s y (List.mem_cons_of_mem _ hy)) hq
    refine ⟨⟨p, ?_⟩, ?_, ?_⟩
    · rw [e]; exact a
    · unfold loop
      rw [e]; exact b
    · rw [hm, List.foldl_cons]; omega
theorem letter_lt {x : Str} (h : Pl x) : ltS x (Str.ofString "a") = isL x := by
  have ea : (Str.ofString "a").cps.toList = [97] := by decide +kernel
  unfold ltS isL
  rw [ea]
  rcases h with h | ⟨c, hc, rfl⟩
  · have e1 : m_is_letter_s x = false := by
      unfold m_is_letter_s
      have e := wd_not (t := grT) h (fun c hc => (great_lo c hc).2)
      show (_ && inS x grT) = false
      rw [e, Bool.and_false]
    rw [e1]
    have h1 := h.ne
    cases e : x.cps.toList with
    | nil =>
      have : tl x = [] := e
      rw [this] at h1; cases h1
    | cons c l =>
      have hc := (small_lo c (h.sm c (by show c ∈ x.cps.toList; rw [e]; simp))).1
      refine decide_eq_false fun z => ?_
      rcases List.cons_lt_cons_iff.mp z with z | ⟨_, z⟩
      · omega
      · exact absurd z (List.not_lt_nil l)
  · rw [letter_yes ⟨c, hc, rfl⟩]
    have h2 := (great_lo c hc).2
    refine decide_eq_true ?_
    show [c] < [97]
    exact List.cons_lt_cons_iff.mpr (.inl (by omega))
def lets (s : List Str) (p : Str × Str × List Str) : List Str := p.2.2.foldl apL s
theorem lets_len {p : Str × Str × List Str} (h : St p) (s : List Str) : (lets s p).length ≤ s.length + 2 := by
  have q : ∀ (xs : List Str) (s : List Str), (xs.foldl apL s).length ≤ s.length + xs.length := by
    intro xs
    induction xs with
    | nil => intro s; exact Nat.le_refl _
    | cons x xs ih =>
      intro s
      have a := ih (apL s x)
      have b := apL_len s x
      rw [List.foldl_cons, List.length_cons]
      omega
  have := q p.2.2 s
  have := h.two
  unfold lets
  omega
theorem letters_ok {p : Str × Str × List Str} (h : St p) : k_letters_of (stT p) ∧ m_letters_of (stT p) = lets [] p := by
  obtain ⟨q1, q2⟩ := parts_ok h
  have h2 := h.two
  unfold k_letters_of m_letters_of k_letters_of_4 m_letters_of_4
  rw [q2]
  obtain ⟨a, b, _⟩ := fold_loop (step := m_letters_of_2) (io := fun y => y) (k := m_letters_of_3) (P := k_letters_of_2) (Q := fun _ => True) apL 1 100 p.2.2 [] (by rw [List.length_nil]; omega)
    (fun s x hx hs => ⟨fun _ => by show _ ≤ 1000000; omega, by
      unfold m_letters_of_2 m_letters_of_1 apL ap isL
      cases m_is_letter_s x <;> rfl, apL_len s x⟩) trivial
  exact ⟨⟨q1, a⟩, b⟩
theorem rule_letters_ok {r : Nat × Str × Str × List Str} {sm : List (Str × Str × List Str)} (hS : ∀ p ∈ sm, St p) (hl : sm.length ≤ 5) (hr : [r.2.2.1] ++ r.2.2.2 = sm.map stT) : k_Rule_letters r ∧ m_Rule_letters r = sm.foldl lets [] := by
  unfold k_Rule_letters m_Rule_letters k_Rule_letters_6 m_Rule_letters_6
  have hlen : ([r.2.2.1] : List Str).length + r.2.2.2.length ≤ 5 := by
    have := congrArg List.length hr
    rw [List.length_append, List.length_map] at this
    omega
  rw [hr]
  obtain ⟨a, b, c⟩ := fold_loop (step := m_Rule_letters_4) (io := fun y => y) (k := m_Rule_letters_5) (P := k_Rule_letters_4) (Q := fun _ => True) (fun s t => (m_letters_of t).foldl ap s) 2 100 (sm.map stT) [] (by rw [List.length_nil, List.length_map]; omega)
    (fun s t ht hs => by
      obtain ⟨p, hp, rfl⟩ := List.mem_map.mp ht
      have hSp := hS p hp
      obtain ⟨l1, l2⟩ := letters_ok hSp
      have l3 := lets_len hSp []
      rw [List.length_nil] at l3
      unfold k_Rule_letters_4 m_Rule_letters_4
      rw [l2]
      obtain ⟨a, b, c⟩ := fold_loop (step := m_Rule_letters_2) (io := fun y => Step.fin y) (k := m_Rule_letters_3) (P := k_Rule_letters_2) (Q := fun _ => True) ap 1 200 (lets [] p) s (by omega)
        (fun s x hx hs => ⟨fun _ => by show _ ≤ 1000000; omega, rfl, ap_len s x⟩) trivial
      exact ⟨⟨l1, a⟩, b, by omega⟩) trivial
  refine ⟨⟨by show _ ≤ 1000000; omega, a⟩, ?_⟩
  rw [b]
  show (sm.map stT).foldl (fun s t => (m_letters_of t).foldl ap s) [] = sm.foldl lets []
  rw [List.foldl_map]
  have q : ∀ (xs : List (Str × Str × List Str)) (s : List Str), (∀ p ∈ xs, St p) → xs.foldl (fun s p => (m_letters_of (stT p)).foldl ap s) s = xs.foldl lets s := by
    intro xs
    induction xs with
    | nil => intro s _; rfl
    | cons p xs ih =>
      intro s h
      rw [List.foldl_cons, List.foldl_cons, ih _ (fun z hz => h z (List.mem_cons_of_mem _ hz))]
      congr 1
      rw [(letters_ok (h p (by simp))).2]
      unfold lets
      exact fold_apL s p.2.2 []
  exact q sm [] hS
end Lw

namespace Lw
open PySem PySem.Spec L2 Vs TL
theorem mem_joinL {s : List Nat} {c : Nat} : ∀ {xs : List (List Nat)}, c ∈ joinL s xs → c ∈ s ∨ ∃ x ∈ xs, c ∈ x
  | [], h => by cases h
  | [p], h => .inr ⟨p, by simp, h⟩
  | p :: q :: r, h => by
    have h' : c ∈ p ++ (s ++ joinL s (q :: r)) := h
    rcases List.mem_append.mp h' with h | h
    · exact .inr ⟨p, by simp, h⟩
    · rcases List.mem_append.mp h with h | h
      · exact .inl h
      · rcases mem_joinL h with h | ⟨x, hx, hc⟩
        · exact .inl h
        · exact .inr ⟨x, List.mem_cons_of_mem _ hx, hc⟩
theorem mix_ok (a k : Int) : k_law_mix a k := by
  unfold k_law_mix k_law_mix_3 k_law_mix_2 k_law_mix_1 mulOk
  generalize a % 2147483647 + 7919 * k + 12345 = x
  have h1 := mod_nn x (show (0 : Int) < 2147483647 by decide)
  refine ⟨.inl ⟨by omega, by omega⟩, ?_⟩
  generalize x % 2147483647 * (x % 2147483647) % 2147483629 * 48271 + k = y
  have h3 := mod_nn y (show (0 : Int) < 2147483647 by decide)
  exact .inl ⟨by omega, by omega⟩
theorem cell_ok (s : List Int) {k : Int} (h : 0 ≤ k) : k_law_cell_at s k := fun e => inI_nn h (of_decide_eq_true e)
theorem join_ge {s x : Str} {xs : List Str} (h : 1 ≤ x.length) : 1 ≤ (Txt.join s (x :: xs)).length := by
  have e := join_ne (s := s) (xs := xs) h
  cases q : (Txt.join s (x :: xs)).length with
  | zero =>
    have : tl (Txt.join s (x :: xs)) = [] := List.eq_nil_of_length_eq_zero (by rw [← len_tl]; exact q)
    rw [show Txt.join s (x :: xs) = Str.ofString "" from ext_tl (by rw [this, tl_nil]), beq_self_eq_true] at e
    cases e
  | succ n => omega
theorem cut_to {A : Type} (L : List A) {j : Int} (hj : 0 ≤ j) : cut L none (some j) = L.take (min j.toNat L.length) := by
  unfold cut
  have e : HT.sIx L.length L.length (some j) = min j.toNat L.length := by
    show (if j < 0 then (j + (L.length : Int)).toNat else min j.toNat L.length) = _
    rw [if_neg (by omega)]
  rw [e]
  rfl
theorem wd_join {L : List Str} (hL : ∀ x ∈ L, x.length = 1) (h1 : 1 ≤ L.length) (h8 : L.length ≤ 8) {j : Int} (hj : 1 ≤ j) : joinOk (Str.ofString "") (cut L none (some j)) ∧ 1 ≤ (Txt.join (Str.ofString "") (cut L none (some j))).length ∧ (Txt.join (Str.ofString "") (cut L none (some j))).length ≤ 8 := by
  rw [cut_to L (by omega)]
  have c0 := lenS "" (n := 0) rfl
  have hm : ∀ x ∈ L.take (min j.toNat L.length), x.length = 1 := fun x hx => hL x (List.mem_of_mem_take hx)
  have hl : (L.take (min j.toNat L.length)).length = min j.toNat L.length := by rw [List.length_take]; omega
  generalize L.take (min j.toNat L.length) = C at hm hl
  have hle := join_le (s := Str.ofString "") (B := 1) (xs := C) fun x hx => Nat.le_of_eq (hm x hx)
  rw [c0] at hle
  refine ⟨joinOk_of (B := 1) (fun x hx => Nat.le_of_eq (hm x hx)) (by rw [c0]; omega), ?_, by omega⟩
  cases C with
  | nil => rw [List.length_nil] at hl; omega
  | cons x xs => exact join_ge (Nat.le_of_eq (hm x (by simp)).symm)
abbrev ab : Str := Str.ofString "abcdefghijklmnopqrstuvwxyz"
theorem words_ok0 (c : Int) {n : Int} (h0 : 0 ≤ n) (h7 : n ≤ 7) : k_law_words c n ∧ (m_law_words c n).length = n.toNat ∧ ∀ w ∈ m_law_words c n, 1 ≤ w.length ∧ w.length ≤ 8 := by
  unfold k_law_words m_law_words
  have h26 : ∀ x : Int, (atI ab.cps.toList (x % 26)).isSome = true := fun x => by
    have := mod_nn x (show (0 : Int) < 26 by decide)
    exact atI_nn this.1 (by rw [← str_len, show ab.length = 26 from by decide +kernel]; exact this.2)
  have hB : ∀ w ∈ List.map (fun v_item : Nat => (sgn ab ((m_law_mix c (((10 : Int) + (v_item : Int)))) % (26 : Int)))) (List.range (Int.toNat (8 : Int))), w.length = 1 := fun w hw => by
    obtain ⟨i, _, rfl⟩ := List.mem_map.mp hw
    exact len_sgn _ _
  have hl : (List.map (fun v_item : Nat => (sgn ab ((m_law_mix c (((10 : Int) + (v_item : Int)))) % (26 : Int)))) (List.range (Int.toNat (8 : Int)))).length = 8 := by rw [List.length_map, List.length_range]; rfl
  suffices h : ∀ B : List Str, (∀ w ∈ B, w.length = 1) → B.length = 8 → k_law_words_8 c n B ∧ (m_law_words_8 c n B).length = n.toNat ∧ ∀ w ∈ m_law_words_8 c n B, 1 ≤ w.length ∧ w.length ≤ 8 from
    ⟨⟨⟨by decide, by decide⟩, by rw [List.length_range]; decide, fun i _ => ⟨mix_ok _ _, h26 _⟩, (h _ hB hl).1⟩, (h _ hB hl).2⟩
  intro B hB hl
  unfold k_law_words_8 m_law_words_8 k_law_words_7 m_law_words_7 k_law_words_6 m_law_words_6 k_law_words_5 m_law_words_5
  have h8 := mod_nn (m_law_mix c 1) (show (0 : Int) < 8 by decide)
  have ha := mod_nn (m_law_mix c 2) (n := 1 + m_law_mix c 1 % 8) (by omega)
  generalize m_law_mix c 2 % (1 + m_law_mix c 1 % 8) = at_ at ha
  generalize hsz : 1 + m_law_mix c 1 % 8 = size at ha
  obtain ⟨a, s', b, d⟩ := loop_go (step := m_law_words_3 c B size at_) (io := fun y => y) (k := m_law_words_4) (P := k_law_words_3 c B size at_) (Q := fun _ => True) (xs := List.range n.toNat) (s := ([] : List Str)) (fun i (s : List Str) => s.length = i ∧ ∀ w ∈ s, 1 ≤ w.length ∧ w.length ≤ 8) ⟨rfl, fun w hw => nomatch hw⟩ (fun i x s hx hs => by
    obtain ⟨rfl, hlt⟩ := mem_range_get hx
    have j1 := wd_join hB (by omega) (by omega) (j := 1 + (x : Int)) (by omega)
    have hO : ∀ w ∈ List.set B (Int.toNat at_) (sgn ab ((m_law_mix c 3 + (x : Int)) % 26)), w.length = 1 := fun w hw => by
      rcases List.mem_or_eq_of_mem_set hw with h | h
      · exact hB w h
      · rw [h]; exact len_sgn _ _
    have j2 := wd_join hO (by rw [List.length_set]; omega) (by rw [List.length_set]; omega) (j := size) (by omega)
    refine ⟨⟨mix_ok _ _, h26 _, ⟨by omega, by omega⟩, fun _ => ⟨j1.1, smallL (by omega)⟩, fun _ => ⟨j2.1, smallL (by omega)⟩⟩, _, .inl rfl, ?_⟩
    cases (c % 3) == (1 : Int) with
    | true =>
      refine ⟨by show (s ++ [_]).length = x + 1; rw [List.length_append, hs.1]; rfl, fun w hw => ?_⟩
      rcases List.mem_append.mp (show w ∈ s ++ [_] from hw) with h | h
      · exact hs.2 w h
      · rw [List.mem_singleton.mp h]; exact j1.2
    | false =>
      refine ⟨by show (s ++ [_]).length = x + 1; rw [List.length_append, hs.1]; rfl, fun w hw => ?_⟩
      rcases List.mem_append.mp (show w ∈ s ++ [_] from hw) with h | h
      · exact hs.2 w h
      · rw [List.mem_singleton.mp h]; exact j2.2) (fun _ _ => trivial)
  rw [List.length_range] at d
  refine ⟨⟨mix_ok _ _, mix_ok _ _, by omega, ⟨by omega, by omega⟩, a⟩, ?_⟩
  rw [b]
  exact d

/-- one small letter -/
def One (x : Str) : Prop := x.length = 1 ∧ ∀ c ∈ tl x, c ∈ tl smT
theorem sgn_one (i : Int) : One (sgn ab (i % 26)) := by
  have h := mod_nn i (show (0 : Int) < 26 by decide)
  obtain ⟨c, hc, he⟩ := sgn_mem (z := ab) h.1 (by rw [show ab.length = 26 from by decide +kernel]; exact h.2)
  refine ⟨len_sgn _ _, fun d hd => ?_⟩
  rw [he] at hd
  have : d = c := by simpa using (show d ∈ [c] from hd)
  rw [this]
  exact hc
theorem join_wd {L : List Str} (hL : ∀ x ∈ L, One x) (h1 : 1 ≤ L.length) (h8 : L.length ≤ 8) {j : Int} (hj : 1 ≤ j) : joinOk (Str.ofString "") (cut L none (some j)) ∧ Wd (Txt.join (Str.ofString "") (cut L none (some j))) := by
  obtain ⟨a, b, c⟩ := wd_join (fun x hx => (hL x hx).1) h1 h8 hj
  refine ⟨a, by rw [← len_tl]; exact b, by rw [← len_tl]; exact c, fun d hd => ?_⟩
  rw [cut_to L (by omega), join_eq, tl_join] at hd
  rcases mem_joinL hd with h | ⟨x, hx, hc⟩
  · rw [tl_nil] at h; cases h
  · obtain ⟨y, hy, rfl⟩ := List.mem_map.mp hx
    exact (hL y (List.mem_of_mem_take hy)).2 d hc
theorem words_ok (c : Int) {n : Int} (h0 : 0 ≤ n) (h8n : n ≤ 8) : k_law_words c n ∧ (m_law_words c n).length = n.toNat ∧ ∀ w ∈ m_law_words c n, Wd w := by
  unfold k_law_words m_law_words
  have h26 : ∀ x : Int, (atI ab.cps.toList (x % 26)).isSome = true := fun x => by
    have := mod_nn x (show (0 : Int) < 26 by decide)
    exact atI_nn this.1 (by rw [← str_len, show ab.length = 26 from by decide +kernel]; exact this.2)
  have hB : ∀ w ∈ List.map (fun v_item : Nat => (sgn ab ((m_law_mix c (((10 : Int) + (v_item : Int)))) % (26 : Int)))) (List.range (Int.toNat (8 : Int))), One w := fun w hw => by
    obtain ⟨i, _, rfl⟩ := List.mem_map.mp hw
    exact sgn_one _
  have hl : (List.map (fun v_item : Nat => (sgn ab ((m_law_mix c (((10 : Int) + (v_item : Int)))) % (26 : Int)))) (List.range (Int.toNat (8 : Int)))).length = 8 := by rw [List.length_map, List.length_range]; rfl
  suffices h : ∀ B : List Str, (∀ w ∈ B, One w) → B.length = 8 → k_law_words_8 c n B ∧ (m_law_words_8 c n B).length = n.toNat ∧ ∀ w ∈ m_law_words_8 c n B, Wd w from
    ⟨⟨⟨by decide, by decide⟩, by rw [List.length_range]; decide, fun i _ => ⟨mix_ok _ _, h26 _⟩, (h _ hB hl).1⟩, (h _ hB hl).2⟩
  intro B hB hl
  unfold k_law_words_8 m_law_words_8 k_law_words_7 m_law_words_7 k_law_words_6 m_law_words_6 k_law_words_5 m_law_words_5
  have h8 := mod_nn (m_law_mix c 1) (show (0 : Int) < 8 by decide)
  have ha := mod_nn (m_law_mix c 2) (n := 1 + m_law_mix c 1 % 8) (by omega)
  generalize m_law_mix c 2 % (1 + m_law_mix c 1 % 8) = at_ at ha
  generalize hsz : 1 + m_law_mix c 1 % 8 = size at ha
  obtain ⟨a, s', b, d⟩ := loop_go (step := m_law_words_3 c B size at_) (io := fun y => y) (k := m_law_words_4) (P := k_law_words_3 c B size at_) (Q := fun _ => True) (xs := List.range n.toNat) (s := ([] : List Str)) (fun i (s : List Str) => s.length = i ∧ ∀ w ∈ s, Wd w) ⟨rfl, fun w hw => nomatch hw⟩ (fun i x s hx hs => by
    obtain ⟨rfl, hlt⟩ := mem_range_get hx
    have j1 := join_wd hB (by omega) (by omega) (j := 1 + (x : Int)) (by omega)
    have hO : ∀ w ∈ List.set B (Int.toNat at_) (sgn ab ((m_law_mix c 3 + (x : Int)) % 26)), One w := fun w hw => by
      rcases List.mem_or_eq_of_mem_set hw with h | h
      · exact hB w h
      · rw [h]; exact sgn_one _
    have j2 := join_wd hO (by rw [List.length_set]; omega) (by rw [List.length_set]; omega) (j := size) (by omega)
    refine ⟨⟨mix_ok _ _, h26 _, ⟨by omega, by omega⟩, fun _ => ⟨j1.1, smallL (by omega)⟩, fun _ => ⟨j2.1, smallL (by omega)⟩⟩, _, .inl rfl, ?_⟩
    cases (c % 3) == (1 : Int) with
    | true =>
      refine ⟨by show (s ++ [_]).length = x + 1; rw [List.length_append, hs.1]; rfl, fun w hw => ?_⟩
      rcases List.mem_append.mp (show w ∈ s ++ [_] from hw) with h | h
      · exact hs.2 w h
      · rw [List.mem_singleton.mp h]; exact j1.2
    | false =>
      refine ⟨by show (s ++ [_]).length = x + 1; rw [List.length_append, hs.1]; rfl, fun w hw => ?_⟩
      rcases List.mem_append.mp (show w ∈ s ++ [_] from hw) with h | h
      · exact hs.2 w h
      · rw [List.mem_singleton.mp h]; exact j2.2) (fun _ _ => trivial)
  rw [List.length_range] at d
  refine ⟨⟨mix_ok _ _, mix_ok _ _, by omega, ⟨by omega, by omega⟩, a⟩, ?_⟩
  rw [b]
  exact d
theorem statement_ok (n : Int) {N S : List Str} (hN : ∀ w ∈ N, Wd w) (hN1 : 1 ≤ N.length) (hS : ∀ x ∈ S, Pl x) (hS1 : 1 ≤ S.length) (hS2 : S.length ≤ 100) (hN2 : N.length ≤ 100) : k_law_statement n N S ∧ St (m_law_statement n N S) ∧ ∀ x ∈ (m_law_statement n N S).2.2, x ∈ S := by
  unfold k_law_statement m_law_statement k_law_statement_5 m_law_statement_5 k_law_statement_4 m_law_statement_4
  have h2 := mod_nn n (show (0 : Int) < 2 by decide)
  have h3 := mod_nn (n / 2) (show (0 : Int) < 3 by decide)
  obtain ⟨sd1, sd2⟩ := side_ok h2.1 h2.2
  have hq : ∀ st : List Str × Int, k_law_statement_3 n N st := fun st => by
    have hm := mod_nn st.2 (n := (N.length : Int)) (by omega)
    exact ⟨sd1, by omega, inI_nn hm.1 hm.2⟩
  obtain ⟨a, s', b, d⟩ := loop_go (step := m_law_statement_2 S) (io := fun y => y) (k := m_law_statement_3 n N) (P := k_law_statement_2 S) (Q := k_law_statement_3 n N) (xs := List.range (Int.toNat (n / 2 % 3))) (s := (([] : List Str), n / 6)) (fun i st => st.1.length = i ∧ ∀ x ∈ st.1, x ∈ S) ⟨rfl, fun x hx => nomatch hx⟩ (fun i x s hx hs => by
    obtain ⟨rfl, hlt⟩ := mem_range_get hx
    have hm := mod_nn s.2 (n := (S.length : Int)) (by omega)
    refine ⟨⟨by omega, inI_nn hm.1 hm.2, smallL (by omega), by omega, by omega⟩, _, .inl rfl, ?_, fun y hy => ?_⟩
    · show (s.1 ++ [_]).length = x + 1
      rw [List.length_append, hs.1]; rfl
    · rcases List.mem_append.mp (show y ∈ s.1 ++ [_] from hy) with h | h
      · exact hs.2 y h
      · rw [List.mem_singleton.mp h]; exact itm_in hm.1 hm.2) (fun s _ => hq s)
  rw [List.length_range] at d
  refine ⟨⟨⟨by omega, by omega⟩, a⟩, ?_⟩
  rw [b]
  have hm := mod_nn s'.2 (n := (N.length : Int)) (by omega)
  exact ⟨⟨sd2, hN _ (itm_in hm.1 hm.2), by show s'.1.length ≤ 2; omega, fun x hx => hS x (d.2 x hx)⟩, d.2⟩
theorem law_text_ok {g : List (Str × Str)} (hg : GivenW g) {p : Str × Str × List Str} (h : St p) : k_law_text p g ∧ m_law_text p g = stT (fillP g p) := by
  have hf := fill_st hg h
  obtain ⟨s, n, ps⟩ := p
  have hs : s.length ≤ 1 := sd_len h.sd
  have hn : n.length ≤ 8 := name_len h.wd
  have c1 := ch_len "(" (n := 1) rfl
  have c2 := ch_len ")" (n := 1) rfl
  have c3 := ch_len "," (n := 1) rfl
  have h2 : ps.length ≤ 2 := h.two
  have hp2 : ∀ x ∈ List.map (fun v_item : Str => Option.getD (gets g v_item) v_item) ps, Pl x := hf.pl
  have hl : (List.map (fun v_item : Str => Option.getD (gets g v_item) v_item) ps).length ≤ 2 := by rw [List.length_map]; exact h2
  have e : stT (fillP g (s, n, ps)) = s ++ bare n (List.map (fun v_item : Str => Option.getD (gets g v_item) v_item) ps) := rfl
  rw [e]
  unfold k_law_text m_law_text k_law_text_1 m_law_text_1
  dsimp only
  have hemp : (ps == []) = ((List.map (fun v_item : Str => Option.getD (gets g v_item) v_item) ps) == []) := by cases ps <;> rfl
  rw [hemp]
  generalize hq : List.map (fun v_item : Str => Option.getD (gets g v_item) v_item) ps = qs at hp2 hl
  have hj := join_len hl hp2
  have hjo := joinOk_of (s := Str.ofString ",") (B := 8) (xs := qs) (fun x hx => by have := (hp2 x hx).len; rw [len_tl]; exact this.2) (by rw [c3]; omega)
  simp only [len_app, c1, c2]
  refine ⟨⟨fun _ => smallS (by omega), fun _ => ⟨smallS (by omega), smallS (by omega), smallL (by omega), hjo, smallS (by omega), smallS (by omega)⟩⟩, ?_⟩
  cases qs with
  | nil => rfl
  | cons p r =>
    show s ++ n ++ Str.ofString "(" ++ Txt.join (Str.ofString ",") (p :: r) ++ Str.ofString ")" = s ++ (n ++ Str.ofString "(" ++ (Txt.join (Str.ofString ",") (p :: r) ++ Str.ofString ")"))
    simp only [app_asc]
end Lw

namespace Lw
open PySem PySem.Spec L2 Vs TL
theorem great_be (c : Nat) : (leS (Str.ofString "A") ⟨#[c]⟩ && leS ⟨#[c]⟩ (Str.ofString "Z")) = decide (65 ≤ c ∧ c ≤ 90) := by
  have ea : (Str.ofString "A").cps.toList = [65] := by decide +kernel
  have ez : (Str.ofString "Z").cps.toList = [90] := by decide +kernel
  have h1 : ([c] < [65]) ↔ c < 65 := by
    rw [List.cons_lt_cons_iff]
    exact ⟨fun h => h.elim id fun z => absurd z.2 (List.not_lt_nil []), .inl⟩
  have h2 : ([90] < [c]) ↔ 90 < c := by
    rw [List.cons_lt_cons_iff]
    exact ⟨fun h => h.elim id fun z => absurd z.2 (List.not_lt_nil []), .inl⟩
  unfold leS
  rw [ea, ez]
  show (!decide ([c] < [65]) && !decide ([90] < [c])) = _
  rw [Bool.eq_iff_iff]
  simp only [Bool.and_eq_true, Bool.not_eq_true', decide_eq_false_iff_not, decide_eq_true_eq, h1, h2]
  omega
theorem first_great {x : Str} (h : Pl x) : (atI x.cps.toList (0 : Int)).isSome = true ∧ (leS (Str.ofString "A") (sgn x (0 : Int)) && leS (sgn x (0 : Int)) (Str.ofString "Z")) = isL x := by
  have hl := h.len
  obtain ⟨c, hc, he⟩ : ∃ c, (tl x)[0]? = some c ∧ sgn x (0 : Int) = ⟨#[c]⟩ := by
    cases e : tl x with
    | nil => rw [e] at hl; simp at hl
    | cons c l =>
      refine ⟨c, rfl, ?_⟩
      unfold sgn
      rw [atI_get (xs := x.cps.toList) (by decide) (by show (0 : Int) < ((tl x).length : Int); omega)]
      rw [show x.cps.toList = tl x from rfl, e]
      rfl
  refine ⟨atI_nn (by decide) (by show (0 : Int) < ((tl x).length : Int); omega), ?_⟩
  rw [he, great_be]
  rcases h with h | ⟨d, hd, rfl⟩
  · have e1 : isL x = false := by
      show m_is_letter_s x = false
      unfold m_is_letter_s
      have e := wd_not (t := grT) h (fun c hc => (great_lo c hc).2)
      show (_ && inS x grT) = false
      rw [e, Bool.and_false]
    rw [e1]
    have := small_lo c (h.sm c (List.mem_of_getElem? hc))
    exact decide_eq_false (by omega)
  · have : c = d := by
      have h2 : [d][0]? = some c := hc
      simpa using h2.symm
    subst this
    rw [show isL (⟨#[c]⟩ : Str) = true from letter_yes ⟨c, hd, rfl⟩]
    exact decide_eq_true (great_lo c hd)
theorem order_ok {sm : List (Str × Str × List Str)} (hS : ∀ p ∈ sm, St p) (hl : sm.length ≤ 5) : k_law_order sm ∧ m_law_order sm = sm.foldl lets [] := by
  unfold k_law_order m_law_order k_law_order_6 m_law_order_6
  obtain ⟨a, b, c⟩ := fold_loop (step := m_law_order_4) (io := fun y => y) (k := m_law_order_5) (P := k_law_order_4) (Q := fun _ => True) lets 2 100 sm [] (by rw [List.length_nil]; omega)
    (fun s p hp hs => by
      have hSp := hS p hp
      have h2 := hSp.two
      obtain ⟨a, b, _⟩ := fold_loop (step := m_law_order_2) (io := fun y => Step.fin y) (k := m_law_order_3) (P := k_law_order_2) (Q := fun _ => True) apL 1 200 p.2.2 s (by omega)
        (fun s x hx hs => ⟨⟨(first_great (hSp.pl x hx)).1, fun _ => by show _ ≤ 1000000; omega⟩, by
          unfold m_law_order_2 m_law_order_1 apL ap
          rw [(first_great (hSp.pl x hx)).2]
          cases isL x <;> cases List.elem x s <;> rfl, apL_len s x⟩) trivial
      exact ⟨a, b, lets_len hSp s⟩) trivial
  exact ⟨a, b⟩
/-- unlike letters -/
structure LL (U : List Str) (s : List Str) : Prop where
  nd : s.Nodup
  sb : ∀ x ∈ s, x ∈ U
theorem LL.ap {U s : List Str} (h : LL U s) {x : Str} (hx : isL x = true → x ∈ U) : LL U (apL s x) := by
  unfold apL Lw.ap
  cases e : isL x with
  | false => exact h
  | true =>
    cases e2 : List.elem x s with
    | true => exact h
    | false =>
      have hn : x ∉ s := fun hm => by
        have : List.elem x s = true := by simpa using hm
        rw [this] at e2; cases e2
      refine ⟨List.nodup_append.mpr ⟨h.nd, by simp, fun a ha b hb e3 => ?_⟩, fun y hy => ?_⟩
      · have : b = x := by simpa using hb
        subst this; subst e3
        exact hn ha
      · rcases List.mem_append.mp (show y ∈ s ++ [x] from hy) with h' | h'
        · exact h.sb y h'
        · rw [List.mem_singleton.mp h']; exact hx e
theorem LL.lets {U : List Str} {p : Str × Str × List Str} (hp : ∀ x ∈ p.2.2, isL x = true → x ∈ U) {s : List Str} (h : LL U s) : LL U (lets s p) := by
  unfold Lw.lets
  have go : ∀ (xs : List Str) (s : List Str), (∀ x ∈ xs, isL x = true → x ∈ U) → LL U s → LL U (xs.foldl apL s) := by
    intro xs
    induction xs with
    | nil => intro s _ h; exact h
    | cons x xs ih => intro s hx h; exact ih _ (fun y hy => hx y (List.mem_cons_of_mem _ hy)) (h.ap (hx x (by simp)))
  exact go _ _ hp h
theorem letters_few {U : List Str} {sm : List (Str × Str × List Str)} (h : ∀ p ∈ sm, ∀ x ∈ p.2.2, isL x = true → x ∈ U) : LL U (sm.foldl lets []) := by
  have go : ∀ (sm : List (Str × Str × List Str)) (s : List Str), (∀ p ∈ sm, ∀ x ∈ p.2.2, isL x = true → x ∈ U) → LL U s → LL U (sm.foldl lets s) := by
    intro sm
    induction sm with
    | nil => intro s _ h; exact h
    | cons p sm ih => intro s hp h; exact ih _ (fun q hq => hp q (List.mem_cons_of_mem _ hq)) (h.lets (hp p (by simp)))
  exact go _ _ h ⟨List.nodup_nil, fun x hx => nomatch hx⟩
/-! all ways -/
structure WB (n : Nat) (found : List Gv) : Prop where
  ln : ∀ g ∈ found, g.length ≤ n
  gw : ∀ g ∈ found, GivenW g
theorem ways_ok {L T : List Str} (hL : L.length ≤ 3) (hT : ∀ t ∈ T, Wd t) (hT8 : T.length ≤ 8) : k_ways_of L T ∧ m_ways_of L T = waysP L T ∧ WB 3 (waysP L T) := by
  unfold k_ways_of m_ways_of k_ways_of_9 m_ways_of_9
  have inner : ∀ (l : Str) (g : Gv) (st : List Gv), g.length ≤ 3 → st.length ≤ 5000 → k_ways_of_4 T l st g ∧ m_ways_of_4 T l st g = .nx (st ++ T.map fun t => puts g l t) := by
    intro l g st hg hst
    unfold k_ways_of_4 m_ways_of_4
    obtain ⟨a, b, _⟩ := loop_foldi (step := m_ways_of_2 l g) (io := fun y => Step.fin y) (k := m_ways_of_3) (P := k_ways_of_2 l g) (Q := fun _ => True) (fun st t => st ++ [puts g l t]) (fun i s => s.length = st.length + i) (xs := T) (i0 := 0) (s := st) rfl (fun i s t ht hi hs => by
      refine ⟨⟨smallL (by omega), smallL (by omega)⟩, rfl, ?_⟩
      rw [List.length_append, hs]; rfl) (fun _ => trivial)
    refine ⟨a, b.trans ?_⟩
    have go : ∀ (T : List Str) (st : List Gv), T.foldl (fun st t => st ++ [puts g l t]) st = st ++ T.map fun t => puts g l t := by
      intro T
      induction T with
      | nil => intro st; simp
      | cons t T ih => intro st; rw [List.foldl_cons, ih]; simp
    rw [go]
    rfl
  have mid : ∀ (l : Str) (st : List Gv), (∀ g ∈ st, g.length ≤ 3) → st.length ≤ 64 → k_ways_of_7 T st l ∧ m_ways_of_7 T st l = .nx (st.flatMap fun g => T.map fun t => puts g l t) := by
    intro l st hg hst
    unfold k_ways_of_7 m_ways_of_7 k_ways_of_6 m_ways_of_6
    obtain ⟨a, b, _⟩ := loop_foldi (step := m_ways_of_4 T l) (io := fun y => Step.fin y) (k := m_ways_of_5) (P := k_ways_of_4 T l) (Q := fun _ => True) (fun s g => s ++ T.map fun t => puts g l t) (fun i s => s.length ≤ 8 * i) (xs := st) (i0 := 0) (s := ([] : List Gv)) (Nat.zero_le _) (fun i s g hm hi hs => by
      obtain ⟨x, y⟩ := inner l g s (hg g hm) (by omega)
      refine ⟨x, y, ?_⟩
      rw [List.length_append, List.length_map]
      omega) (fun _ => trivial)
    refine ⟨a, b.trans ?_⟩
    have go : ∀ (xs : List Gv) (s : List Gv), xs.foldl (fun s g => s ++ T.map fun t => puts g l t) s = s ++ xs.flatMap fun g => T.map fun t => puts g l t := by
      intro xs
      induction xs with
      | nil => intro s; simp
      | cons x xs ih => intro s; rw [List.foldl_cons, ih, List.flatMap_cons, List.append_assoc]
    rw [go]
    rfl
  obtain ⟨a, b, c⟩ := loop_foldi (step := m_ways_of_7 T) (io := fun y => y) (k := m_ways_of_8) (P := k_ways_of_7 T) (Q := fun _ => True) (fun st l => st.flatMap fun g => T.map fun t => puts g l t) (fun i st => WB i st ∧ st.length ≤ 8 ^ i) (xs := L) (i0 := 0) (s := ([[]] : List Gv)) ⟨⟨fun g hg => by rw [List.mem_singleton.mp hg]; exact Nat.zero_le _, fun g hg => by rw [List.mem_singleton.mp hg]; exact fun z hz => nomatch hz⟩, Nat.le_refl _⟩ (fun i st l hl hi hs => by
    have h2 : i ≤ 2 := by omega
    have hp : 8 ^ i ≤ 64 := by
      have := Nat.pow_le_pow_right (show 0 < 8 by decide) h2
      exact this
    obtain ⟨x, y⟩ := mid l st (fun g hg => Nat.le_trans (hs.1.ln g hg) (by omega)) (Nat.le_trans hs.2 hp)
    refine ⟨x, y, ⟨fun g hg => ?_, fun g hg => ?_⟩, ?_⟩
    · obtain ⟨g0, h0, h1⟩ := List.mem_flatMap.mp hg
      obtain ⟨t, ht, rfl⟩ := List.mem_map.mp h1
      have := puts_len l t g0
      have := hs.1.ln g0 h0
      omega
    · obtain ⟨g0, h0, h1⟩ := List.mem_flatMap.mp hg
      obtain ⟨t, ht, rfl⟩ := List.mem_map.mp h1
      intro z hz
      rcases mem_puts hz with rfl | hz
      · exact hT t ht
      · exact hs.1.gw g0 h0 z hz
    · have e : (st.flatMap fun g => T.map fun t => puts g l t).length = st.length * T.length := by
        clear hs x y
        induction st with
        | nil => simp
        | cons x d ih2 => rw [List.flatMap_cons, List.length_append, ih2, List.length_map, List.length_cons, Nat.add_mul, Nat.one_mul, Nat.add_comm]
      rw [e, Nat.pow_succ]
      exact Nat.mul_le_mul hs.2 hT8) (fun _ => trivial)
  refine ⟨a, b, ⟨fun g hg => ?_, c.1.gw⟩⟩
  have := c.1.ln g hg
  omega
end Lw

namespace Lw
open PySem PySem.Spec L2 Vs TL
theorem str_small {n : Int} (h0 : 0 ≤ n) (h1 : n < 10000000) : strIOk n ∧ (strI n).length ≤ 7 := by
  obtain ⟨m, rfl⟩ : ∃ m : Nat, n = (m : Int) := ⟨n.toNat, by omega⟩
  have hm : m < 10 ^ 7 := by omega
  have hl : (strI (m : Int)).length ≤ 7 := by
    rw [len_tl]
    show (tl (Str.ofString (toString (m : Int)))).length ≤ 7
    rw [tl_num]
    exact numL_len (by decide) hm
  refine ⟨⟨?_, good_iff.mpr ⟨smallS (by omega), fun c hc => ?_⟩⟩, hl⟩
  · show (m : Int).natAbs.log2 < 1920
    rw [Int.natAbs_natCast]
    by_cases h : m = 0
    · subst h; decide
    · have : m.log2 < 24 := (Nat.log2_lt h).mpr (by omega)
      omega
  · have hc' : c ∈ tl (Str.ofString (toString (m : Int))) := hc
    rw [tl_num] at hc'
    by_cases h : c < 48 ∨ 57 < c
    · exact absurd hc' (numL_free h)
    · omega
def dst (T : List Str) (s : Gv × Int) (l : Str) : Gv × Int := (puts s.1 l (itm T (s.2 % (T.length : Int))), s.2 / (T.length : Int))
theorem dfold {T : List Str} (hT : 0 < T.length) : ∀ (ls : List Str) (i : Nat) (d : Gv), (ls.foldl (dst T) (d, (i : Int))).1 = digs T ls i d
  | [], _, _ => rfl
  | l :: ls, i, d => by
    rw [List.foldl_cons]
    unfold digs
    have h1 : (i : Int) % (T.length : Int) = ((i % T.length : Nat) : Int) := rfl
    have h2 : (i : Int) / (T.length : Int) = ((i / T.length : Nat) : Int) := rfl
    have e : dst T (d, (i : Int)) l = (puts d l (T.getD (i % T.length) default), ((i / T.length : Nat) : Int)) := by
      unfold dst
      dsimp only
      rw [h1, h2, itm_nn (by omega) (by have := Nat.mod_lt i hT; omega)]
      rfl
    rw [e]
    exact dfold hT ls _ _
theorem digs_gw {T : List Str} (hW : ∀ t ∈ T, Wd t) (hT : 0 < T.length) : ∀ (ls : List Str) (i : Nat) (d : Gv), GivenW d → GivenW (digs T ls i d)
  | [], _, _, h => h
  | l :: ls, i, d, h => by
    unfold digs
    refine digs_gw hW hT ls _ _ fun z hz => ?_
    rcases mem_puts hz with rfl | hz
    · have hr := Nat.mod_lt i hT
      show Wd (T.getD (i % T.length) default)
      rw [List.getD_eq_getElem?_getD, List.getElem?_eq_getElem hr]
      exact hW _ (List.getElem_mem _)
    · exact h z hz
theorem pow3 {n k : Nat} (hn : n ≤ 8) (hk : k ≤ 3) : n ^ k ≤ 512 := by
  have h1 : n ^ k ≤ 8 ^ k := Nat.pow_le_pow_left hn k
  have h2 : 8 ^ k ≤ 8 ^ 3 := Nat.pow_le_pow_right (by decide) hk
  have h3 : 8 ^ 3 = 512 := by decide
  omega
theorem due_ok {sm : List (Str × Str × List Str)} (hS : ∀ p ∈ sm, St p) (hl : sm.length ≤ 5) {T : List Str} (hW : ∀ t ∈ T, Wd t) (h1 : 0 < T.length) (h8 : T.length ≤ 8) (h3 : (sm.foldl lets []).length ≤ 3) :
    k_law_due sm T ∧ m_law_due sm T = (List.range (T.length ^ (sm.foldl lets []).length)).map fun i => sm.map fun p => stT (fillP (digs T (sm.foldl lets []).reverse i []) p) := by
  obtain ⟨o1, o2⟩ := order_ok hS hl
  unfold k_law_due m_law_due
  rw [o2]
  generalize sm.foldl lets [] = L at h3
  suffices h : k_law_due_12 sm T L ∧ m_law_due_12 sm T L = (List.range (T.length ^ L.length)).map fun i => sm.map fun p => stT (fillP (digs T L.reverse i []) p) from ⟨⟨o1, h.1⟩, h.2⟩
  have one : ∀ (st : List (List Str)) (i : Nat), st.length ≤ 1000 → k_law_due_8 sm T L st i ∧ m_law_due_8 sm T L st i = .nx (st ++ [sm.map fun p => stT (fillP (digs T L.reverse i []) p)]) := by
    intro st i hst
    unfold k_law_due_8 m_law_due_8 k_law_due_7 m_law_due_7 k_law_due_6 m_law_due_6
    obtain ⟨a, b, _⟩ := loop_foldi (step := m_law_due_4 T) (io := fun y => Step.fin y) (k := m_law_due_5 sm st) (P := k_law_due_4 T) (Q := k_law_due_5 sm st) (dst T) (fun j (s : Gv × Int) => s.1.length ≤ j ∧ GivenW s.1) (xs := L.reverse) (i0 := 0) (s := (([] : Gv), (i : Int))) ⟨Nat.zero_le _, fun z hz => nomatch hz⟩ (fun j s l hl' hj hs => by
      rw [List.length_reverse] at hj
      have hm := mod_nn s.2 (n := (T.length : Int)) (by omega)
      refine ⟨⟨by omega, inI_nn hm.1 hm.2, smallL (by omega), by omega, by omega⟩, rfl, ?_, fun z hz => ?_⟩
      · have := puts_len l (itm T (s.2 % (T.length : Int))) s.1
        show (puts s.1 l (itm T (s.2 % (T.length : Int)))).length ≤ j + 1
        omega
      · rcases mem_puts (show z ∈ puts s.1 l (itm T (s.2 % (T.length : Int))) from hz) with rfl | hz
        · exact hW _ (itm_in hm.1 hm.2)
        · exact hs.2 z hz) (fun hs => ⟨smallL (by omega), fun p hp => (law_text_ok hs.2 (hS p hp)).1, smallL (by omega)⟩)
    refine ⟨a, b.trans ?_⟩
    unfold m_law_due_5
    rw [dfold h1]
    have e : List.map (fun v_item => m_law_text v_item (digs T L.reverse i [])) sm = sm.map fun p => stT (fillP (digs T L.reverse i []) p) := List.map_congr_left fun p hp => (law_text_ok (digs_gw hW h1 L.reverse i [] (fun z hz => nomatch hz)) (hS p hp)).2
    rw [e]
  have hp := pow3 h8 h3
  have two : k_law_due_11 sm T L ((T.length ^ L.length : Nat) : Int) ∧ m_law_due_11 sm T L ((T.length ^ L.length : Nat) : Int) = (List.range (T.length ^ L.length)).map fun i => sm.map fun p => stT (fillP (digs T L.reverse i []) p) := by
    unfold k_law_due_11 m_law_due_11 k_law_due_10 m_law_due_10
    rw [Int.toNat_natCast]
    generalize T.length ^ L.length = M at hp
    obtain ⟨a, b, _⟩ := loop_foldi (step := m_law_due_8 sm T L) (io := fun y => y) (k := m_law_due_9) (P := k_law_due_8 sm T L) (Q := fun _ => True) (fun st i => st ++ [sm.map fun p => stT (fillP (digs T L.reverse i []) p)]) (fun j s => s.length = j) (xs := List.range M) (i0 := 0) (s := ([] : List (List Str))) rfl (fun j s i hi hj hs => by
      rw [List.length_range] at hj
      obtain ⟨x, y⟩ := one s i (by omega)
      refine ⟨x, y, ?_⟩
      rw [List.length_append, hs]; rfl) (fun _ => trivial)
    refine ⟨⟨⟨by omega, by omega⟩, a⟩, b.trans ?_⟩
    have go : ∀ (xs : List Nat) (s : List (List Str)), xs.foldl (fun st i => st ++ [sm.map fun p => stT (fillP (digs T L.reverse i []) p)]) s = s ++ xs.map fun i => sm.map fun p => stT (fillP (digs T L.reverse i []) p) := by
      intro xs
      induction xs with
      | nil => intro s; simp
      | cons x xs ih => intro s; rw [List.foldl_cons, ih]; simp
    rw [go]
    rfl
  unfold k_law_due_12 m_law_due_12
  have fold : ∀ (xs : List Str) (j : Nat), xs.foldl (fun (st : Int) _ => st * (T.length : Int)) ((T.length ^ j : Nat) : Int) = ((T.length ^ (j + xs.length) : Nat) : Int) := by
    intro xs
    induction xs with
    | nil => intro j; rfl
    | cons x xs ih =>
      intro j
      rw [List.foldl_cons]
      have e : ((T.length ^ j : Nat) : Int) * (T.length : Int) = ((T.length ^ (j + 1) : Nat) : Int) := by rw [Nat.pow_succ]; rfl
      rw [e, ih, List.length_cons]
      congr 2
      omega
  have f0 := fold L 0
  rw [Nat.zero_add] at f0
  obtain ⟨a, b, _⟩ := loop_foldi (step := m_law_due_2 T) (io := fun y => y) (k := m_law_due_11 sm T L) (P := k_law_due_2 T) (Q := k_law_due_11 sm T L) (fun (st : Int) _ => st * (T.length : Int)) (fun _ _ => True) (xs := L) (i0 := 0) (s := (1 : Int)) trivial (fun i s x hx hi _ => ⟨.inr ⟨by omega, by omega⟩, rfl, trivial⟩) (fun _ => by
    show k_law_due_11 sm T L (L.foldl (fun (st : Int) _ => st * (T.length : Int)) ((T.length ^ 0 : Nat) : Int))
    rw [f0]; exact two.1)
  refine ⟨a, b.trans ?_⟩
  show m_law_due_11 sm T L (L.foldl (fun (st : Int) _ => st * (T.length : Int)) ((T.length ^ 0 : Nat) : Int)) = _
  rw [f0]
  exact two.2
theorem filled_r {k : Nat} (hk : k < 4) {lb : Str} {p : Str × Str × List Str} {rest : List (Str × Str × List Str)} (hS : ∀ q ∈ p :: rest, St q) (hl : rest.length ≤ 4) (hf : k = 0 → rest = [] ∧ lb = Str.ofString "") {g : Gv} (hg : GivenW g) :
    k_d_Rule_filled (k, lb, stT p, rest.map stT) g ∧ m_d_Rule_filled (k, lb, stT p, rest.map stT) g = (k, lb, stT (fillP g p), rest.map fun q => stT (fillP g q)) := by
  have key : k_Rule_filled (k, lb, stT p, rest.map stT) g := by
    refine ⟨(filled_ok hg (hS p (by simp))).1, smallL (by show (rest.map stT).length ≤ _; rw [List.length_map]; omega), fun t ht => ?_⟩
    obtain ⟨q, hq, rfl⟩ := List.mem_map.mp (show t ∈ rest.map stT from ht)
    exact (filled_ok hg (hS q (List.mem_cons_of_mem _ hq))).1
  have e1 : m_filled (stT p) g = stT (fillP g p) := (filled_ok hg (hS p (by simp))).2
  have e2 : (rest.map stT).map (fun v_item_1 : Str => m_filled v_item_1 g) = rest.map fun q => stT (fillP g q) := by
    rw [List.map_map]
    exact List.map_congr_left fun q hq => (filled_ok hg (hS q (List.mem_cons_of_mem _ hq))).2
  have hm : m_Rule_filled (k, lb, stT p, rest.map stT) g = m_d_Rule_again (k, lb, stT p, rest.map stT) (stT (fillP g p)) (rest.map fun q => stT (fillP g q)) := by
    unfold m_Rule_filled
    dsimp only
    rw [e1, e2]
  rcases k with _ | _ | _ | _ | k
  · obtain ⟨rfl, rfl⟩ := hf rfl
    exact ⟨key, hm.trans rfl⟩
  · exact ⟨key, hm.trans rfl⟩
  · exact ⟨key, hm.trans rfl⟩
  · exact ⟨key, hm.trans rfl⟩
  · omega
end Lw

namespace Lw
open PySem PySem.Spec L2 Vs TL
theorem last_ok {A : Type} [Inhabited A] {T : List A} (h : 1 ≤ T.length) : inI T (-(1 : Int)) = true ∧ itm T (-(1 : Int)) ∈ T := by
  have e : ixN T.length (-(1 : Int)) = some (T.length - 1) := by
    unfold ixN
    rw [if_neg (by decide), if_pos (by omega)]
    congr 1
    omega
  refine ⟨by unfold inI; rw [e]; rfl, ?_⟩
  unfold itm atI
  rw [e]
  show (T[T.length - 1]?).getD default ∈ T
  rw [List.getElem?_eq_getElem (by omega)]
  exact List.getElem_mem _
theorem specs_ok (ns : List Int) {kind : Int} {T N : List Str} (hT : ∀ w ∈ T, Wd w) (hT1 : 1 ≤ T.length) (hN : ∀ w ∈ N, Wd w) (hN1 : N.length = 3) :
    k_law_specs ns kind T N ∧ ∃ p rest, m_law_specs ns kind T N = p :: rest ∧ (∀ q ∈ p :: rest, St q) ∧ rest.length ≤ 4 ∧ (kind = 3 → rest = []) ∧ ((p :: rest).foldl lets []).length ≤ 3 ∧ ((p :: rest).foldl lets []).Nodup := by
  unfold k_law_specs m_law_specs k_law_specs_11 m_law_specs_11
  have l26 : (Str.ofString "ABCDEFGHIJKLMNOPQRSTUVWXYZ").length = 26 := by decide +kernel
  have h26 : ∀ x : Int, 0 ≤ x % 26 ∧ x % 26 < 26 := fun x => mod_nn x (by decide)
  have h3 := mod_nn (m_law_mix (m_law_cell_at ns 2) 2) (show (0 : Int) < 3 by decide)
  generalize m_law_mix (m_law_cell_at ns 2) 1 = first
  have hU : ∀ x ∈ List.map (fun v_item : Nat => (sgn (Str.ofString "ABCDEFGHIJKLMNOPQRSTUVWXYZ") ((first + ((9 : Int) * (v_item : Int))) % (26 : Int)))) (List.range (Int.toNat ((1 : Int) + ((m_law_mix ((m_law_cell_at ns ((2 : Int)))) ((2 : Int))) % (3 : Int))))), Pl x := fun x hx => by
    obtain ⟨i, _, rfl⟩ := List.mem_map.mp hx
    obtain ⟨d, hd, he⟩ := sgn_mem (z := Str.ofString "ABCDEFGHIJKLMNOPQRSTUVWXYZ") (h26 (first + 9 * (i : Int))).1 (by rw [l26]; exact (h26 _).2)
    exact .inr ⟨d, hd, he⟩
  have hUl : (List.map (fun v_item : Nat => (sgn (Str.ofString "ABCDEFGHIJKLMNOPQRSTUVWXYZ") ((first + ((9 : Int) * (v_item : Int))) % (26 : Int)))) (List.range (Int.toNat ((1 : Int) + ((m_law_mix ((m_law_cell_at ns ((2 : Int)))) ((2 : Int))) % (3 : Int)))))).length ≤ 3 := by
    rw [List.length_map, List.length_range]; omega
  have hat : ∀ i : Nat, (atI (Str.ofString "ABCDEFGHIJKLMNOPQRSTUVWXYZ").cps.toList ((first + 9 * (i : Int)) % 26)).isSome = true := fun i => atI_nn (h26 _).1 (by rw [← str_len, l26]; exact (h26 _).2)
  suffices h : ∀ U : List Str, (∀ x ∈ U, Pl x) → U.length ≤ 3 → k_law_specs_10 ns kind T N U ∧ ∃ p rest, m_law_specs_10 ns kind T N U = p :: rest ∧ (∀ q ∈ p :: rest, St q) ∧ rest.length ≤ 4 ∧ (kind = 3 → rest = []) ∧ ((p :: rest).foldl lets []).length ≤ 3 ∧ ((p :: rest).foldl lets []).Nodup from
    ⟨⟨cell_ok _ (by decide), mix_ok _ _, cell_ok _ (by decide), mix_ok _ _, ⟨by omega, by omega⟩, by rw [List.length_range]; exact smallL (by omega), fun i _ => hat i, (h _ hU hUl).1⟩, (h _ hU hUl).2⟩
  intro U hU hUl
  unfold k_law_specs_10 m_law_specs_10 k_law_specs_9 m_law_specs_9 k_law_specs_8 m_law_specs_8
  have t0 : inI T (0 : Int) = true := inI_nn (by decide) (by omega)
  have n0 : inI N (0 : Int) = true := inI_nn (by decide) (by omega)
  obtain ⟨t1, t2⟩ := last_ok hT1
  have hT0 := hT _ (itm_in (xs := T) (j := 0) (by decide) (by omega))
  have hN0 := hN _ (itm_in (xs := N) (j := 0) (by decide) (by omega))
  have h5 := mod_nn (m_law_cell_at ns 2 / 4) (show (0 : Int) < 5 by decide)
  have wl : ∀ x : Str, Wd x → isL x = false := fun x h => by
    show m_is_letter_s x = false
    unfold m_is_letter_s
    have e := wd_not (t := grT) h (fun c hc => (great_lo c hc).2)
    show (_ && inS x grT) = false
    rw [e, Bool.and_false]
  have seven : ∀ (S : List Str) (many : Int), (∀ x ∈ S, Pl x) → 1 ≤ S.length → S.length ≤ 6 → (∀ x ∈ S, isL x = true → x ∈ U) → 1 ≤ many → many ≤ 5 → (kind = 3 → many = 1) →
      k_law_specs_7 ns N (S, many) ∧ ∃ p rest, m_law_specs_7 ns N (S, many) = p :: rest ∧ (∀ q ∈ p :: rest, St q) ∧ rest.length ≤ 4 ∧ (kind = 3 → rest = []) ∧ ((p :: rest).foldl lets []).length ≤ 3 ∧ ((p :: rest).foldl lets []).Nodup := by
    intro S many hS hS1 hS6 hSU hm1 hm5 hm3
    unfold k_law_specs_7 m_law_specs_7
    dsimp only
    have hl : (List.map (fun v_item_1 : Nat => (m_law_cell_at ns (((3 : Int) + (v_item_1 : Int))))) (List.range (Int.toNat many))).length = many.toNat := by rw [List.length_map, List.length_range]
    generalize List.map (fun v_item_1 : Nat => (m_law_cell_at ns (((3 : Int) + (v_item_1 : Int))))) (List.range (Int.toNat many)) = Z at hl
    have fin : ∀ Z : List Int, Z.length = many.toNat → k_law_specs_5 N (S, many) Z ∧ ∃ p rest, m_law_specs_5 N (S, many) Z = p :: rest ∧ (∀ q ∈ p :: rest, St q) ∧ rest.length ≤ 4 ∧ (kind = 3 → rest = []) ∧ ((p :: rest).foldl lets []).length ≤ 3 ∧ ((p :: rest).foldl lets []).Nodup := by
      intro Z hZ
      have st := fun z => statement_ok z hN (by omega) hS hS1 (by omega) (by omega)
      unfold k_law_specs_5 m_law_specs_5
      refine ⟨⟨smallL (by omega), fun z _ => (st z).1⟩, ?_⟩
      cases Z with
      | nil => rw [List.length_nil] at hZ; omega
      | cons z zs =>
        rw [List.length_cons] at hZ
        have hst : ∀ q ∈ m_law_statement z N S :: zs.map (fun v_item_4 : Int => m_law_statement v_item_4 N S), St q := fun q hq => by
          rcases List.mem_cons.mp hq with rfl | hq
          · exact (st z).2.1
          · obtain ⟨y, _, rfl⟩ := List.mem_map.mp hq
            exact (st y).2.1
        have hU2 : ∀ q ∈ m_law_statement z N S :: zs.map (fun v_item_4 : Int => m_law_statement v_item_4 N S), ∀ x ∈ q.2.2, isL x = true → x ∈ U := fun q hq x hx hxl => by
          rcases List.mem_cons.mp hq with rfl | hq
          · exact hSU x ((st z).2.2 x hx) hxl
          · obtain ⟨y, _, rfl⟩ := List.mem_map.mp hq
            exact hSU x ((st y).2.2 x hx) hxl
        have ll := letters_few hU2
        refine ⟨_, _, rfl, hst, by rw [List.length_map]; omega, fun e => ?_, Nat.le_trans (nodup_le ll.nd ll.sb) hUl, ll.nd⟩
        have := hm3 e
        have : zs = [] := List.eq_nil_of_length_eq_zero (by omega)
        rw [this]; rfl
    unfold k_law_specs_6 m_law_specs_6
    have hZ2 : (cond ((((m_law_cell_at ns ((2 : Int))) / (20 : Int)) % (2 : Int)) == (1 : Int)) (m_law_specs_4 (List.map (fun v_item_2 : Int => (m_law_mix v_item_2 ((6 : Int)))) Z)) Z).length = many.toNat := by
      cases (((m_law_cell_at ns ((2 : Int))) / (20 : Int)) % (2 : Int)) == (1 : Int)
      · exact hl
      · show (List.map _ Z).length = _
        rw [List.length_map]; exact hl
    obtain ⟨f1, f2⟩ := fin _ hZ2
    exact ⟨⟨⟨by omega, by omega⟩, by rw [List.length_range]; exact smallL (by omega), fun i _ => cell_ok _ (by omega), cell_ok _ (by decide), fun _ => ⟨smallL (by omega), fun z _ => mix_ok _ _⟩, f1⟩, f2⟩
  have three : ∀ x ∈ [itm T (0 : Int), itm T (-(1 : Int)), itm N (0 : Int)], Wd x := fun x hx => by
    simp only [List.mem_cons, List.not_mem_nil, or_false] at hx
    rcases hx with rfl | rfl | rfl
    · exact hT0
    · exact hT _ t2
    · exact hN0
  have sev : k_law_specs_7 ns N (cond (kind == (3 : Int)) (m_law_specs_2 ([(itm T (0 : Int)), (itm T (-(1 : Int))), (itm N (0 : Int))])) ((U ++ [(itm T (0 : Int)), (itm T (-(1 : Int))), (itm N (0 : Int))]), ((1 : Int) + (((m_law_cell_at ns ((2 : Int))) / (4 : Int)) % (5 : Int))))) ∧ ∃ p rest, m_law_specs_7 ns N (cond (kind == (3 : Int)) (m_law_specs_2 ([(itm T (0 : Int)), (itm T (-(1 : Int))), (itm N (0 : Int))])) ((U ++ [(itm T (0 : Int)), (itm T (-(1 : Int))), (itm N (0 : Int))]), ((1 : Int) + (((m_law_cell_at ns ((2 : Int))) / (4 : Int)) % (5 : Int))))) = p :: rest ∧ (∀ q ∈ p :: rest, St q) ∧ rest.length ≤ 4 ∧ (kind = 3 → rest = []) ∧ ((p :: rest).foldl lets []).length ≤ 3 ∧ ((p :: rest).foldl lets []).Nodup := by
    cases e : kind == (3 : Int) with
    | true =>
      exact seven [itm T (0 : Int), itm T (-(1 : Int)), itm N (0 : Int)] 1 (fun x hx => .inl (three x hx)) (by show 1 ≤ 3; omega) (by show 3 ≤ 6; omega) (fun x hx h => by rw [wl x (three x hx)] at h; cases h) (by omega) (by omega) (fun _ => rfl)
    | false =>
      refine seven (U ++ [itm T (0 : Int), itm T (-(1 : Int)), itm N (0 : Int)]) (1 + m_law_cell_at ns 2 / 4 % 5) (fun x hx => ?_) (by rw [List.length_append]; show 1 ≤ U.length + 3; omega) (by rw [List.length_append]; show U.length + 3 ≤ 6; omega) (fun x hx h => ?_) (by omega) (by omega) (fun z => ?_)
      · rcases List.mem_append.mp hx with h | h
        · exact hU x h
        · exact .inl (three x h)
      · rcases List.mem_append.mp hx with h' | h'
        · exact h'
        · rw [wl x (three x h')] at h; cases h
      · rw [z] at e; cases e
  exact ⟨⟨t0, t1, n0, smallL (by show U.length + 3 ≤ _; omega), cell_ok _ (by decide), fun _ => ⟨t0, t1, n0⟩, sev.1⟩, sev.2⟩
/-- the class of a kind -/
def kx (kind : Int) : Nat := cond (kind == 0) 1 (cond (kind == 1) 2 (cond (kind == 2) 3 0))
theorem good_ok {kind : Int} (h0 : 0 ≤ kind) (h4 : kind < 4) {lb : Str} (zs : List (Str × List Str)) (hz : zs.length ≤ 1000) :
    k_law_good (zs.map fun z => (kx kind, lb, z.1, z.2)) kind lb (zs.map fun z => z.1 :: z.2) ∧ m_law_good (zs.map fun z => (kx kind, lb, z.1, z.2)) kind lb (zs.map fun z => z.1 :: z.2) = true := by
  unfold k_law_good m_law_good
  have e : (!(((zs.map fun z => ((kx kind, lb, z.1, z.2) : Nat × Str × Str × List Str)).length : Int) == ((zs.map fun z => z.1 :: z.2).length : Int))) = false := by
    rw [List.length_map, List.length_map, beq_self_eq_true]; rfl
  rw [e]
  have ezip : List.zip (zs.map fun z => ((kx kind, lb, z.1, z.2) : Nat × Str × Str × List Str)) (zs.map fun z => z.1 :: z.2) = zs.map fun z => ((kx kind, lb, z.1, z.2), z.1 :: z.2) := by
    clear e hz
    induction zs with
    | nil => rfl
    | cons z zs ih => rw [List.map_cons, List.map_cons, List.map_cons, List.zip_cons_cons, ih]
  rw [ezip]
  have ek : (([(ib_Rule_Sure (kx kind)), (ib_Rule_Most (kx kind)), (ib_Rule_Block (kx kind)), (ib_Rule_Fact (kx kind))] : List Bool) == (List.map (fun v_item : Nat => ((v_item : Int) == kind)) (List.range (Int.toNat (4 : Int))))) = true := by
    obtain ⟨k, rfl⟩ : ∃ k : Nat, kind = (k : Int) := ⟨kind.toNat, by omega⟩
    rcases k with _ | _ | _ | _ | k
    · rfl
    · rfl
    · rfl
    · rfl
    · omega
  have st : ∀ q ∈ zs.map fun z => (((kx kind, lb, z.1, z.2), z.1 :: z.2) : (Nat × Str × Str × List Str) × List Str), k_law_good_2 kind lb () q ∧ m_law_good_2 kind lb () q = .nx () := fun q hq => by
    obtain ⟨z, _, rfl⟩ := List.mem_map.mp hq
    unfold k_law_good_2 m_law_good_2 k_law_good_1 m_law_good_1
    dsimp only
    rw [ek, it0, cut1]
    simp only [beq_self_eq_true, Bool.not_true, Bool.or_false, cond]
    exact ⟨⟨⟨by decide, by decide⟩, by rw [List.length_range]; decide, fun _ => in0 _ _⟩, trivial⟩
  obtain ⟨a, b⟩ := search_any (step := m_law_good_2 kind lb) (k := m_law_good_3) (P := k_law_good_2 kind lb) (Q := fun _ => True) (p := fun _ => false) (y := false) _ (fun q h => (st q h).2) (fun q h => (st q h).1) trivial
  refine ⟨fun _ => a, ?_⟩
  refine b.trans ?_
  have e2 : ∀ xs : List ((Nat × Str × Str × List Str) × List Str), xs.any (fun _ => false) = false := fun xs => by simp
  rw [e2]; rfl
theorem end_true (ns : List Int) (hn : ns.length ≤ 63) : r_law [.scr (ns.map Dt.int)] (.inl (.fz (.bl true))) := by
  suffices h : k_law ns ∧ m_law ns = true by
    refine ⟨ns, h.1, rfl, ?_⟩
    rw [h.2]
  unfold k_law m_law
  have h8 := mod_nn (m_law_mix (m_law_cell_at ns 0) 40) (show (0 : Int) < 8 by decide)
  obtain ⟨w1, w2, w3⟩ := words_ok (m_law_cell_at ns 0) (n := 1 + m_law_mix (m_law_cell_at ns 0) 40 % 8) (by omega) (by omega)
  suffices h : ∀ T : List Str, (∀ t ∈ T, Wd t) → 1 ≤ T.length → T.length ≤ 8 → k_law_9 ns T ∧ m_law_9 ns T = true from
    ⟨⟨cell_ok _ (by decide), cell_ok _ (by decide), mix_ok _ _, w1, (h _ w3 (by omega) (by omega)).1⟩, (h _ w3 (by omega) (by omega)).2⟩
  intro T hT hT1 hT8
  unfold k_law_9 m_law_9 k_law_8 m_law_8 k_law_7 m_law_7 k_law_6 m_law_6
  obtain ⟨v1, v2, v3⟩ := words_ok (m_law_cell_at ns 1) (n := 3) (by decide) (by decide)
  have hk := mod_nn (m_law_cell_at ns 2) (show (0 : Int) < 4 by decide)
  generalize m_law_cell_at ns 2 % 4 = kind at hk
  generalize m_law_words (m_law_cell_at ns 1) 3 = N at v2 v3
  obtain ⟨s1, p, rest, s2, s3, s4, s5, s6, s7⟩ := specs_ok ns (kind := kind) hT hT1 v3 v2
  rw [s2]
  have h10 : ((10 : Int) ^ Int.toNat 7) = 10000000 := by decide
  rw [h10]
  have hm := mod_nn (m_law_mix (m_law_cell_at ns 1) 41) (show (0 : Int) < 10000000 by decide)
  obtain ⟨x1, x2⟩ := str_small hm.1 hm.2
  generalize m_law_mix (m_law_cell_at ns 1) 41 % 10000000 = nn at hm x1 x2
  have hlab : inI [((Str.ofString "r") ++ (strI nn)), (Str.ofString "")] (kind / (3 : Int)) = true ∧ (kind = 3 → itm [((Str.ofString "r") ++ (strI nn)), (Str.ofString "")] (kind / (3 : Int)) = Str.ofString "") := by
    refine ⟨inI_nn (by omega) (by show kind / 3 < 2; omega), fun e => ?_⟩
    rw [e]
    rfl
  generalize itm [((Str.ofString "r") ++ (strI nn)), (Str.ofString "")] (kind / (3 : Int)) = lb at hlab
  suffices h : k_law_5 T kind lb (p :: rest) ∧ m_law_5 T kind lb (p :: rest) = true from
    ⟨⟨cell_ok _ (by decide), v1, cell_ok _ (by decide), cell_ok _ (by decide), mix_ok _ _, x1, by rw [lenS "r" (n := 1) rfl]; exact smallS (by omega), hlab.1, s1, h.1⟩, h.2⟩
  have g0 : GivenW ([] : Gv) := fun z hz => nomatch hz
  have ft : ∀ q : Str × Str × List Str, fillP ([] : Gv) q = q := fun q => by
    obtain ⟨a, b, c⟩ := q
    show (a, b, c.map fun x => (gets ([] : Gv) x).getD x) = (a, b, c)
    have : (c.map fun x => (gets ([] : Gv) x).getD x) = c := by
      have e : (fun x : Str => (gets ([] : Gv) x).getD x) = id := by funext x; rfl
      rw [e, List.map_id]
    rw [this]
  have txt : List.map (fun v_item => m_law_text v_item ([] : Gv)) (p :: rest) = stT p :: rest.map stT := by
    rw [show stT p :: rest.map stT = (p :: rest).map stT from rfl]
    exact List.map_congr_left fun q hq => by rw [(law_text_ok g0 (s3 q hq)).2, ft]
  unfold k_law_5 m_law_5
  rw [txt]
  have made : k_law_made kind lb (stT p :: rest.map stT) ∧ m_law_made kind lb (stT p :: rest.map stT) = (kx kind, lb, stT p, rest.map stT) := by
    have i0 := in0 (stT p) (rest.map stT)
    refine ⟨⟨fun _ => i0, fun _ => ⟨fun _ => i0, fun _ => ⟨fun _ => i0, fun _ => i0⟩⟩⟩, ?_⟩
    unfold m_law_made kx
    rw [it0, cut1]
    cases e0 : kind == (0 : Int) with
    | true => rfl
    | false =>
      cases e1 : kind == (1 : Int) with
      | true => rfl
      | false =>
        cases e2 : kind == (2 : Int) with
        | true => rfl
        | false =>
          have h3 : kind = 3 := by
            have a0 : kind ≠ 0 := fun z => by rw [z] at e0; cases e0
            have a1 : kind ≠ 1 := fun z => by rw [z] at e1; cases e1
            have a2 : kind ≠ 2 := fun z => by rw [z] at e2; cases e2
            omega
          rw [hlab.2 h3, s5 h3]
          rfl
  have hkx : kx kind < 4 := by
    unfold kx
    cases kind == (0 : Int)
    · cases kind == (1 : Int)
      · cases kind == (2 : Int)
        · show 0 < 4; decide
        · show 3 < 4; decide
      · show 2 < 4; decide
    · show 1 < 4; decide
  have hf : kx kind = 0 → rest = [] ∧ lb = Str.ofString "" := fun e => by
    have h3 : kind = 3 := by
      obtain ⟨k, rfl⟩ : ∃ k : Nat, kind = (k : Int) := ⟨kind.toNat, by omega⟩
      rcases k with _ | _ | _ | _ | k
      · cases e
      · cases e
      · cases e
      · rfl
      · omega
    exact ⟨s5 h3, hlab.2 h3⟩
  unfold k_law_4 m_law_4 k_law_3 m_law_3
  rw [made.2]
  obtain ⟨d1, d2⟩ := due_ok s3 (by rw [List.length_cons]; omega) hT hT1 hT8 s6
  rw [d2]
  obtain ⟨l1, l2⟩ := rule_letters_ok (r := (kx kind, lb, stT p, rest.map stT)) (sm := p :: rest) s3 (by rw [List.length_cons]; omega) rfl
  have kl : k_d_Rule_letters (kx kind, lb, stT p, rest.map stT) ∧ m_d_Rule_letters (kx kind, lb, stT p, rest.map stT) = (p :: rest).foldl lets [] := by
    generalize kx kind = k at l1 l2
    rcases k with _ | _ | _ | k <;> exact ⟨l1, l2⟩
  generalize hL : (p :: rest).foldl lets [] = L at s6 s7 kl
  obtain ⟨y1, y2, y3⟩ := ways_ok s6 hT hT8
  have hp3 := pow3 hT8 s6
  have wr : k_written_out (kx kind, lb, stT p, rest.map stT) T ∧ m_written_out (kx kind, lb, stT p, rest.map stT) T = (List.range (T.length ^ L.length)).map fun i => (kx kind, lb, stT (fillP (digs T L.reverse i []) p), rest.map fun q => stT (fillP (digs T L.reverse i []) q)) := by
    unfold k_written_out m_written_out
    rw [kl.2, y2]
    refine ⟨⟨kl.1, y1, by rw [waysP_len]; exact smallL (by omega), fun g hg => (filled_r hkx s3 s4 hf (y3.gw g hg)).1⟩, ?_⟩
    have e1 : List.map (fun v_item => m_d_Rule_filled (kx kind, lb, stT p, rest.map stT) v_item) (waysP L T) = (waysP L T).map fun g => ((kx kind, lb, stT (fillP g p), rest.map fun q => stT (fillP g q)) : Nat × Str × Str × List Str) := List.map_congr_left fun g hg => (filled_r hkx s3 s4 hf (y3.gw g hg)).2
    rw [e1]
    exact waysP_map hT1 s7 (fun g => ((kx kind, lb, stT (fillP g p), rest.map fun q => stT (fillP g q)) : Nat × Str × Str × List Str)) fun g g' h => by
      have e : fillP g = fillP g' := by
        funext q
        unfold fillP
        have : (fun x : Str => (gets g x).getD x) = fun x : Str => (gets g' x).getD x := by funext x; rw [h x]
        rw [this]
      rw [e]
  let zs : List (Str × List Str) := (List.range (T.length ^ L.length)).map fun i => (stT (fillP (digs T L.reverse i []) p), rest.map fun q => stT (fillP (digs T L.reverse i []) q))
  have hzs : zs.length ≤ 1000 := by
    show (List.map _ (List.range _)).length ≤ 1000
    rw [List.length_map, List.length_range]; omega
  have ez1 : (List.range (T.length ^ L.length)).map (fun i => ((kx kind, lb, stT (fillP (digs T L.reverse i []) p), rest.map fun q => stT (fillP (digs T L.reverse i []) q)) : Nat × Str × Str × List Str)) = zs.map fun z => (kx kind, lb, z.1, z.2) := by
    show _ = List.map _ (List.map _ _)
    rw [List.map_map]; rfl
  have ez2 : ((List.range (T.length ^ L.length)).map fun i => (p :: rest).map fun q => stT (fillP (digs T L.reverse i []) q)) = zs.map fun z => z.1 :: z.2 := by
    show _ = List.map _ (List.map _ _)
    rw [List.map_map]; rfl
  obtain ⟨gd1, gd2⟩ := good_ok hk.1 hk.2 (lb := lb) zs hzs
  obtain ⟨ge1, ge2⟩ := good_ok hk.1 hk.2 (lb := lb) [(stT p, rest.map stT)] (by show 1 ≤ 1000; omega)
  unfold k_law_2 m_law_2 k_law_1 m_law_1
  rw [wr.2, ez1, ez2, gd2]
  have ge2' : m_law_good [(kx kind, lb, stT p, rest.map stT)] kind lb [stT p :: rest.map stT] = true := ge2
  rw [ge2']
  simp only [beq_self_eq_true, Bool.not_true, Bool.or_false, cond, Bool.and_self]
  exact ⟨⟨smallL (by rw [List.length_cons]; omega), fun q hq => (law_text_ok g0 (s3 q hq)).1, made.1, d1, wr.1, gd1, fun _ => ⟨wr.1, gd1, fun _ => ge1⟩⟩, trivial⟩
end Lw

set_option maxHeartbeats 0
namespace Lw
open PySem PySem.Spec L2 Vs
/-! the head -/
def d_law_cell_at : He.DefD := ⟨("_law_cell_at", none), "_law_cell_at", "_law_cell_at", defArgs s_law_cell_at, defBody s_law_cell_at, defScope s_law_cell_at, [], []⟩
def d_law_mix : He.DefD := ⟨("_law_mix", none), "_law_mix", "_law_mix", defArgs s_law_mix, defBody s_law_mix, defScope s_law_mix, [], []⟩
def d_law_words : He.DefD := ⟨("_law_words", none), "_law_words", "_law_words", defArgs s_law_words, defBody s_law_words, defScope s_law_words, [], []⟩
def d_law_statement : He.DefD := ⟨("_law_statement", none), "_law_statement", "_law_statement", defArgs s_law_statement, defBody s_law_statement, defScope s_law_statement, [], []⟩
def d_law_specs : He.DefD := ⟨("_law_specs", none), "_law_specs", "_law_specs", defArgs s_law_specs, defBody s_law_specs, defScope s_law_specs, [], []⟩
def d_law_text : He.DefD := ⟨("_law_text", none), "_law_text", "_law_text", defArgs s_law_text, defBody s_law_text, defScope s_law_text, [], []⟩
def d_Rule___init___l : He.DefD := ⟨("Rule", some "__init__"), "__init__", "Rule.__init__", defArgs s_Rule___init___l, defBody s_Rule___init___l, defScope s_Rule___init___l, [], []⟩
def d_Fact___init__ : He.DefD := ⟨("Fact", some "__init__"), "__init__", "Fact.__init__", defArgs s_Fact___init__, defBody s_Fact___init__, defScope s_Fact___init__, [], []⟩
def d_law_made : He.DefD := ⟨("_law_made", none), "_law_made", "_law_made", defArgs s_law_made, defBody s_law_made, defScope s_law_made, [], []⟩
def d_law_order : He.DefD := ⟨("_law_order", none), "_law_order", "_law_order", defArgs s_law_order, defBody s_law_order, defScope s_law_order, [], []⟩
def d_law_due : He.DefD := ⟨("_law_due", none), "_law_due", "_law_due", defArgs s_law_due, defBody s_law_due, defScope s_law_due, [], []⟩
def d_is_made_of_s : He.DefD := ⟨("is_made_of", none), "is_made_of", "is_made_of", defArgs s_is_made_of_s, defBody s_is_made_of_s, defScope s_is_made_of_s, [], []⟩
def d_is_name_s : He.DefD := ⟨("is_name", none), "is_name", "is_name", defArgs s_is_name_s, defBody s_is_name_s, defScope s_is_name_s, [], []⟩
def d_is_letter_s : He.DefD := ⟨("is_letter", none), "is_letter", "is_letter", defArgs s_is_letter_s, defBody s_is_letter_s, defScope s_is_letter_s, [], []⟩
def d_places_of : He.DefD := ⟨("places_of", none), "places_of", "places_of", defArgs s_places_of, defBody s_places_of, defScope s_places_of, [], []⟩
def d_parts_of : He.DefD := ⟨("parts_of", none), "parts_of", "parts_of", defArgs s_parts_of, defBody s_parts_of, defScope s_parts_of, [], []⟩
def d_letters_of : He.DefD := ⟨("letters_of", none), "letters_of", "letters_of", defArgs s_letters_of, defBody s_letters_of, defScope s_letters_of, [], []⟩
def d_Rule_letters : He.DefD := ⟨("Rule", some "letters"), "letters", "Rule.letters", defArgs s_Rule_letters, defBody s_Rule_letters, defScope s_Rule_letters, [], []⟩
def d_ways_of : He.DefD := ⟨("ways_of", none), "ways_of", "ways_of", defArgs s_ways_of, defBody s_ways_of, defScope s_ways_of, [], []⟩
def d_text_of : He.DefD := ⟨("text_of", none), "text_of", "text_of", defArgs s_text_of, defBody s_text_of, defScope s_text_of, [], []⟩
def d_filled : He.DefD := ⟨("filled", none), "filled", "filled", defArgs s_filled, defBody s_filled, defScope s_filled, [], []⟩
def d_Fact_again_l : He.DefD := ⟨("Fact", some "again"), "again", "Fact.again", defArgs s_Fact_again_l, defBody s_Fact_again_l, defScope s_Fact_again_l, [], []⟩
def d_Sure_again_l : He.DefD := ⟨("Sure", some "again"), "again", "Sure.again", defArgs s_Sure_again_l, defBody s_Sure_again_l, defScope s_Sure_again_l, [], []⟩
def d_Most_again_l : He.DefD := ⟨("Most", some "again"), "again", "Most.again", defArgs s_Most_again_l, defBody s_Most_again_l, defScope s_Most_again_l, [], []⟩
def d_Block_again_l : He.DefD := ⟨("Block", some "again"), "again", "Block.again", defArgs s_Block_again_l, defBody s_Block_again_l, defScope s_Block_again_l, [], []⟩
def d_Rule_filled : He.DefD := ⟨("Rule", some "filled"), "filled", "Rule.filled", defArgs s_Rule_filled, defBody s_Rule_filled, defScope s_Rule_filled, [], []⟩
def d_written_out : He.DefD := ⟨("written_out", none), "written_out", "written_out", defArgs s_written_out, defBody s_written_out, defScope s_written_out, [], []⟩
def d_law_good : He.DefD := ⟨("_law_good", none), "_law_good", "_law_good", defArgs s_law_good, defBody s_law_good, defScope s_law_good, [], []⟩
def d_law : He.DefD := ⟨("law", none), "law", "law", defArgs s_law, defBody s_law, defScope s_law, [], []⟩
def fn : List He.DefD := [d_law_cell_at, d_law_mix, d_law_words, d_law_statement, d_law_specs, d_law_text, d_Rule___init___l, d_Fact___init__, d_law_made, d_law_order, d_law_due, d_is_made_of_s, d_is_name_s, d_is_letter_s, d_places_of, d_parts_of, d_letters_of, d_Rule_letters, d_ways_of, d_text_of, d_filled, d_Fact_again_l, d_Sure_again_l, d_Most_again_l, d_Block_again_l, d_Rule_filled, d_written_out, d_law_good, d_law]
def fa : List He.Fa := [.glo "_law_cell_at", .glo "_law_mix", .glo "_law_words", .glo "_law_statement", .glo "_law_specs", .glo "_law_text", .glo "_law_made", .glo "_law_order", .glo "_law_due", .glo "is_made_of", .glo "is_name", .glo "is_letter", .glo "places_of", .glo "parts_of", .glo "letters_of", .glo "ways_of", .glo "text_of", .glo "filled", .glo "written_out", .glo "_law_good", .glo "law", .free "dict", .free "isinstance", .free "len", .free "list", .free "range", .free "reversed", .free "str", .free "tuple", .free "zip", .str "GREAT" (Str.ofString "ABCDEFGHIJKLMNOPQRSTUVWXYZ"), .int "LONGEST" 8, .str "SMALL" (Str.ofString "abcdefghijklmnopqrstuvwxyz"), .glo "Block", .glo "Fact", .glo "Most", .glo "Rule", .glo "Sure", .mkr "Block", .mkr "Fact", .mkr "Most", .mkr "Sure", .noat "Fact" "body", .noat "Sure" "body", .noat "Most" "body", .noat "Block" "body", .noat "Fact" "head", .noat "Sure" "head", .noat "Most" "head", .noat "Block" "head", .noat "Fact" "label", .noat "Sure" "label", .noat "Most" "label", .noat "Block" "label", .meth "Fact" "letters", .meth "Sure" "letters", .meth "Most" "letters", .meth "Block" "letters", .glo "filled_words", .meth "Fact" "again", .meth "Sure" "again", .meth "Most" "again", .meth "Block" "again", .meth "Fact" "filled", .meth "Sure" "filled", .meth "Most" "filled", .meth "Block" "filled"]
def ya : List Ya := [.cl "Fact", .cl "Sure", .cl "Most", .cl "Block", .isA "Fact" "Block" false, .isA "Sure" "Block" false, .isA "Most" "Block" false, .isA "Block" "Block" true, .isA "Fact" "Fact" true, .isA "Sure" "Fact" false, .isA "Most" "Fact" false, .isA "Block" "Fact" false, .isA "Fact" "Most" false, .isA "Sure" "Most" false, .isA "Most" "Most" true, .isA "Block" "Most" false, .isA "Fact" "Sure" false, .isA "Sure" "Sure" true, .isA "Most" "Sure" false, .isA "Block" "Sure" false, .sup "Rule" "__init__", .same "Sure" "Rule" "__init__", .same "Most" "Rule" "__init__", .same "Block" "Rule" "__init__", .same "Fact" "Rule" "letters", .same "Sure" "Rule" "letters", .same "Most" "Rule" "letters", .same "Block" "Rule" "letters", .ali "filled_words" "filled", .same "Fact" "Rule" "filled", .same "Sure" "Rule" "filled", .same "Most" "Rule" "filled", .same "Block" "Rule" "filled"]
abbrev Rw : PySem.W.OpenRow := PySem.W.OpenLaw.row PySem.Challenge.rw_mostwise_k21_written_out
abbrev hkk : PySem.W.Hook := hookY 6 fa fn ya
def ob (s : PySem.W.SharedT) : He.AlD := obsY 6 fa fn ya (HandSHeadRun.getT s)
theorem ob_eq (s : PySem.W.SharedT) : ob s = hkk.obs s.abs := obsY_eq (HandSHeadRun.getT_eq s)
def nm0 : List Str := ["_wall", "MostError", "NoStatement", "SMALL", "GREAT", "LONGEST", "is_made_of", "is_name", "is_letter", "places_of", "parts_of", "text_of", "letters_of", "filled", "filled_words", "Rule", "Fact", "Sure", "Most", "Block"]
def nm1 : List Str := ["ways_of", "written_out", "_law_cell_at", "_law_mix", "_law_words", "_law_statement", "_law_text", "_law_order", "_law_made", "_law_specs", "_law_due", "_law_good"]
def nms : List Str := nm0 ++ nm1
theorem run (w : World) : HandSHeadRun.RunEq Rw (PySem.W.view Rw.prog [37]) hkk ob 20000 nms w := by
  intro os
  kernel_rfl
theorem facts {P : Program} {w : World} {K : PySem.W.Frag} {h : Heap} {mg : Str → Option Value} {f : Addr} (X : K.In h) (G : h.Ns mainGlobals mg) (hfa : mg ("law" : Str) = some (.ref f)) (c : SaysY fa fn ya K) :
    ∃ fd : FuncData, (∀ (s : Shared) (v : Value), BindsTo s fd ⟨[v], []⟩ [("_law_script", v)]) ∧ ∀ base : Heap, K.In base → base.Ns mainGlobals mg → FnOk P w K mg base (L2.CX P w) 8 f fd ["_law_script"] (spR K 1 r_law) := by
  obtain ⟨fd0, F0⟩ := c.1.def_ 0 (d := d_law_cell_at) rfl
  obtain ⟨fd1, F1⟩ := c.1.def_ 1 (d := d_law_mix) rfl
  obtain ⟨fd2, F2⟩ := c.1.def_ 2 (d := d_law_words) rfl
  obtain ⟨fd3, F3⟩ := c.1.def_ 3 (d := d_law_statement) rfl
  obtain ⟨fd4, F4⟩ := c.1.def_ 4 (d := d_law_specs) rfl
  obtain ⟨fd5, F5⟩ := c.1.def_ 5 (d := d_law_text) rfl
  obtain ⟨fd6, F6⟩ := c.1.def_ 6 (d := d_Rule___init___l) rfl
  obtain ⟨fd7, F7⟩ := c.1.def_ 7 (d := d_Fact___init__) rfl
  obtain ⟨fd8, F8⟩ := c.1.def_ 8 (d := d_law_made) rfl
  obtain ⟨fd9, F9⟩ := c.1.def_ 9 (d := d_law_order) rfl
  obtain ⟨fd10, F10⟩ := c.1.def_ 10 (d := d_law_due) rfl
  obtain ⟨fd11, F11⟩ := c.1.def_ 11 (d := d_is_made_of_s) rfl
  obtain ⟨fd12, F12⟩ := c.1.def_ 12 (d := d_is_name_s) rfl
  obtain ⟨fd13, F13⟩ := c.1.def_ 13 (d := d_is_letter_s) rfl
  obtain ⟨fd14, F14⟩ := c.1.def_ 14 (d := d_places_of) rfl
  obtain ⟨fd15, F15⟩ := c.1.def_ 15 (d := d_parts_of) rfl
  obtain ⟨fd16, F16⟩ := c.1.def_ 16 (d := d_letters_of) rfl
  obtain ⟨fd17, F17⟩ := c.1.def_ 17 (d := d_Rule_letters) rfl
  obtain ⟨fd18, F18⟩ := c.1.def_ 18 (d := d_ways_of) rfl
  obtain ⟨fd19, F19⟩ := c.1.def_ 19 (d := d_text_of) rfl
  obtain ⟨fd20, F20⟩ := c.1.def_ 20 (d := d_filled) rfl
  obtain ⟨fd21, F21⟩ := c.1.def_ 21 (d := d_Fact_again_l) rfl
  obtain ⟨fd22, F22⟩ := c.1.def_ 22 (d := d_Sure_again_l) rfl
  obtain ⟨fd23, F23⟩ := c.1.def_ 23 (d := d_Most_again_l) rfl
  obtain ⟨fd24, F24⟩ := c.1.def_ 24 (d := d_Block_again_l) rfl
  obtain ⟨fd25, F25⟩ := c.1.def_ 25 (d := d_Rule_filled) rfl
  obtain ⟨fd26, F26⟩ := c.1.def_ 26 (d := d_written_out) rfl
  obtain ⟨fd27, F27⟩ := c.1.def_ 27 (d := d_law_good) rfl
  obtain ⟨fd28, F28⟩ := c.1.def_ 28 (d := d_law) rfl
  have e := hfa.symm.trans (He.glo_ok X G (c.1.fact 20 (f := .glo "law") rfl))
  cases e
  have T : Txt K mg := ⟨He.free_ok X G (c.1.fact 21 (f := .free "dict") rfl), He.free_ok X G (c.1.fact 22 (f := .free "isinstance") rfl), He.free_ok X G (c.1.fact 23 (f := .free "len") rfl), He.free_ok X G (c.1.fact 24 (f := .free "list") rfl), He.free_ok X G (c.1.fact 25 (f := .free "range") rfl), He.free_ok X G (c.1.fact 26 (f := .free "reversed") rfl), He.free_ok X G (c.1.fact 27 (f := .free "str") rfl), He.free_ok X G (c.1.fact 28 (f := .free "tuple") rfl), He.free_ok X G (c.1.fact 29 (f := .free "zip") rfl), He.str_ok X G (c.1.fact 30 (f := .str "GREAT" (Str.ofString "ABCDEFGHIJKLMNOPQRSTUVWXYZ")) rfl), He.int_ok X G (c.1.fact 31 (f := .int "LONGEST" 8) rfl), He.str_ok X G (c.1.fact 32 (f := .str "SMALL" (Str.ofString "abcdefghijklmnopqrstuvwxyz")) rfl), (by intro k; rcases k with _ | _ | _ | k; exact clB_ok (c.ya 0 (y := .cl "Fact") rfl); exact clB_ok (c.ya 1 (y := .cl "Sure") rfl); exact clB_ok (c.ya 2 (y := .cl "Most") rfl); exact clB_ok (c.ya 3 (y := .cl "Block") rfl)), He.glo_ok X G (c.1.fact 33 (f := .glo "Block") rfl), He.glo_ok X G (c.1.fact 34 (f := .glo "Fact") rfl), He.glo_ok X G (c.1.fact 35 (f := .glo "Most") rfl), He.glo_ok X G (c.1.fact 36 (f := .glo "Rule") rfl), He.glo_ok X G (c.1.fact 37 (f := .glo "Sure") rfl), (by intro k; rcases k with _ | _ | _ | k; exact isB_ok (c.ya 4 (y := .isA "Fact" "Block" false) rfl); exact isB_ok (c.ya 5 (y := .isA "Sure" "Block" false) rfl); exact isB_ok (c.ya 6 (y := .isA "Most" "Block" false) rfl); exact isB_ok (c.ya 7 (y := .isA "Block" "Block" true) rfl)), (by intro k; rcases k with _ | _ | _ | k; exact isB_ok (c.ya 8 (y := .isA "Fact" "Fact" true) rfl); exact isB_ok (c.ya 9 (y := .isA "Sure" "Fact" false) rfl); exact isB_ok (c.ya 10 (y := .isA "Most" "Fact" false) rfl); exact isB_ok (c.ya 11 (y := .isA "Block" "Fact" false) rfl)), (by intro k; rcases k with _ | _ | _ | k; exact isB_ok (c.ya 12 (y := .isA "Fact" "Most" false) rfl); exact isB_ok (c.ya 13 (y := .isA "Sure" "Most" false) rfl); exact isB_ok (c.ya 14 (y := .isA "Most" "Most" true) rfl); exact isB_ok (c.ya 15 (y := .isA "Block" "Most" false) rfl)), (by intro k; rcases k with _ | _ | _ | k; exact isB_ok (c.ya 16 (y := .isA "Fact" "Sure" false) rfl); exact isB_ok (c.ya 17 (y := .isA "Sure" "Sure" true) rfl); exact isB_ok (c.ya 18 (y := .isA "Most" "Sure" false) rfl); exact isB_ok (c.ya 19 (y := .isA "Block" "Sure" false) rfl)), He.mkr_ok (c.1.fact 38 (f := .mkr "Block") rfl), He.mkr_ok (c.1.fact 39 (f := .mkr "Fact") rfl), He.mkr_ok (c.1.fact 40 (f := .mkr "Most") rfl), He.mkr_ok (c.1.fact 41 (f := .mkr "Sure") rfl), (by intro k; rcases k with _ | _ | _ | k; exact He.noat_ok (c.1.fact 42 (f := .noat "Fact" "body") rfl); exact He.noat_ok (c.1.fact 43 (f := .noat "Sure" "body") rfl); exact He.noat_ok (c.1.fact 44 (f := .noat "Most" "body") rfl); exact He.noat_ok (c.1.fact 45 (f := .noat "Block" "body") rfl)), (by intro k; rcases k with _ | _ | _ | k; exact He.noat_ok (c.1.fact 46 (f := .noat "Fact" "head") rfl); exact He.noat_ok (c.1.fact 47 (f := .noat "Sure" "head") rfl); exact He.noat_ok (c.1.fact 48 (f := .noat "Most" "head") rfl); exact He.noat_ok (c.1.fact 49 (f := .noat "Block" "head") rfl)), (by intro k; rcases k with _ | _ | _ | k; exact He.noat_ok (c.1.fact 50 (f := .noat "Fact" "label") rfl); exact He.noat_ok (c.1.fact 51 (f := .noat "Sure" "label") rfl); exact He.noat_ok (c.1.fact 52 (f := .noat "Most" "label") rfl); exact He.noat_ok (c.1.fact 53 (f := .noat "Block" "label") rfl)), supB_ok (c.ya 20 (y := .sup "Rule" "__init__") rfl)⟩
  have b := FunD.bindsA (ps := ["_law_script"]) F28 fun _ _ _ _ _ _ us hl => match us, hl with | [_], _ => rfl
  refine ⟨fd28, fun s v => b s [v] rfl, fun base _ _ => ?_⟩
  have c_law_cell_at := mk_law_cell_at (P := P) (w := w) (base := base) T  F0 (He.glo_ok X G (c.1.fact 0 (f := .glo "_law_cell_at") rfl))
  have c_law_mix := mk_law_mix (P := P) (w := w) (base := base) T  F1 (He.glo_ok X G (c.1.fact 1 (f := .glo "_law_mix") rfl))
  have c_law_words := mk_law_words (P := P) (w := w) (base := base) T c_law_mix F2 (He.glo_ok X G (c.1.fact 2 (f := .glo "_law_words") rfl))
  have c_law_statement := mk_law_statement (P := P) (w := w) (base := base) T  F3 (He.glo_ok X G (c.1.fact 3 (f := .glo "_law_statement") rfl))
  have c_law_specs := mk_law_specs (P := P) (w := w) (base := base) T c_law_cell_at c_law_mix c_law_statement F4 (He.glo_ok X G (c.1.fact 4 (f := .glo "_law_specs") rfl))
  have c_law_text := mk_law_text (P := P) (w := w) (base := base) T  F5 (He.glo_ok X G (c.1.fact 5 (f := .glo "_law_text") rfl))
  have c_i_Sure_Rule___init___l : CalleeBI P w K mg base "Sure" 1 4 r_Rule___init___l := mk_Rule___init___l (P := P) (w := w) (base := base) T  (C := "Sure") (fd := fd6) (by rw [same_ok (c.ya 21 (y := .same "Sure" "Rule" "__init__") rfl)]; exact F6)
  have c_i_Most_Rule___init___l : CalleeBI P w K mg base "Most" 1 4 r_Rule___init___l := mk_Rule___init___l (P := P) (w := w) (base := base) T  (C := "Most") (fd := fd6) (by rw [same_ok (c.ya 22 (y := .same "Most" "Rule" "__init__") rfl)]; exact F6)
  have c_i_Block_Rule___init___l : CalleeBI P w K mg base "Block" 1 4 r_Rule___init___l := mk_Rule___init___l (P := P) (w := w) (base := base) T  (C := "Block") (fd := fd6) (by rw [same_ok (c.ya 23 (y := .same "Block" "Rule" "__init__") rfl)]; exact F6)
  have c_i_Rule_Rule___init___t : CalleeBI P w K mg base "Rule" 1 4 r_Rule___init___t := mk_Rule___init___t (P := P) (w := w) (base := base) T  (C := "Rule") (fd := fd6) F6
  have c_i_Fact_Fact___init__ : CalleeBI P w K mg base "Fact" 3 2 r_Fact___init__ := mk_Fact___init__ (P := P) (w := w) (base := base) T c_i_Rule_Rule___init___t (C := "Fact") (fd := fd7) F7
  have c_law_made := mk_law_made (P := P) (w := w) (base := base) T c_i_Block_Rule___init___l c_i_Fact_Fact___init__ c_i_Most_Rule___init___l c_i_Sure_Rule___init___l F8 (He.glo_ok X G (c.1.fact 6 (f := .glo "_law_made") rfl))
  have c_law_order := mk_law_order (P := P) (w := w) (base := base) T  F9 (He.glo_ok X G (c.1.fact 7 (f := .glo "_law_order") rfl))
  have c_law_due := mk_law_due (P := P) (w := w) (base := base) T c_law_order c_law_text F10 (He.glo_ok X G (c.1.fact 8 (f := .glo "_law_due") rfl))
  have c_is_made_of_s := mk_is_made_of_s (P := P) (w := w) (base := base) T  F11 (He.glo_ok X G (c.1.fact 9 (f := .glo "is_made_of") rfl))
  have c_is_name_s := mk_is_name_s (P := P) (w := w) (base := base) T c_is_made_of_s F12 (He.glo_ok X G (c.1.fact 10 (f := .glo "is_name") rfl))
  have c_is_letter_s := mk_is_letter_s (P := P) (w := w) (base := base) T  F13 (He.glo_ok X G (c.1.fact 11 (f := .glo "is_letter") rfl))
  have c_places_of := mk_places_of (P := P) (w := w) (base := base) T c_is_letter_s c_is_name_s F14 (He.glo_ok X G (c.1.fact 12 (f := .glo "places_of") rfl))
  have c_parts_of := mk_parts_of (P := P) (w := w) (base := base) T c_is_name_s c_places_of F15 (He.glo_ok X G (c.1.fact 13 (f := .glo "parts_of") rfl))
  have c_letters_of := mk_letters_of (P := P) (w := w) (base := base) T c_is_letter_s c_parts_of F16 (He.glo_ok X G (c.1.fact 14 (f := .glo "letters_of") rfl))
  have c_d_Rule_letters : ∀ k, CalleeM P w K mg base (cn_Rule k) "letters" 6 1 (rr_d_Rule_letters k) := by
    intro k
    rcases k with _ | _ | _ | k
    · exact (mk_Rule_letters (P := P) (w := w) (base := base) T c_letters_of F17 (meth_as (c.ya 24 (y := .same "Fact" "Rule" "letters") rfl) (He.meth_ok (c.1.fact 54 (f := .meth "Fact" "letters") rfl)))).up (by decide)
    · exact (mk_Rule_letters (P := P) (w := w) (base := base) T c_letters_of F17 (meth_as (c.ya 25 (y := .same "Sure" "Rule" "letters") rfl) (He.meth_ok (c.1.fact 55 (f := .meth "Sure" "letters") rfl)))).up (by decide)
    · exact (mk_Rule_letters (P := P) (w := w) (base := base) T c_letters_of F17 (meth_as (c.ya 26 (y := .same "Most" "Rule" "letters") rfl) (He.meth_ok (c.1.fact 56 (f := .meth "Most" "letters") rfl)))).up (by decide)
    · exact (mk_Rule_letters (P := P) (w := w) (base := base) T c_letters_of F17 (meth_as (c.ya 27 (y := .same "Block" "Rule" "letters") rfl) (He.meth_ok (c.1.fact 57 (f := .meth "Block" "letters") rfl)))).up (by decide)
  have c_ways_of := mk_ways_of (P := P) (w := w) (base := base) T  F18 (He.glo_ok X G (c.1.fact 15 (f := .glo "ways_of") rfl))
  have c_text_of := mk_text_of (P := P) (w := w) (base := base) T  F19 (He.glo_ok X G (c.1.fact 16 (f := .glo "text_of") rfl))
  have c_al_filled_words_filled : Callee P w K mg base "filled_words" 5 2 r_filled := mk_filled (P := P) (w := w) (base := base) T c_parts_of c_text_of F20 (by have z := He.glo_ok X G (c.1.fact 58 (f := .glo "filled_words") rfl); rw [ali_ok (c.ya 28 (y := .ali "filled_words" "filled") rfl)] at z; exact z)
  have c_filled := mk_filled (P := P) (w := w) (base := base) T c_parts_of c_text_of F20 (He.glo_ok X G (c.1.fact 17 (f := .glo "filled") rfl))
  have c_d_Rule_again : ∀ k, CalleeM P w K mg base (cn_Rule k) "again" 5 3 (rr_d_Rule_again k) := by
    intro k
    rcases k with _ | _ | _ | k
    · exact (mk_Fact_again_l (P := P) (w := w) (base := base) T c_i_Fact_Fact___init__ F21 (He.meth_ok (c.1.fact 59 (f := .meth "Fact" "again") rfl))).up (by decide)
    · exact (mk_Sure_again_l (P := P) (w := w) (base := base) T c_i_Sure_Rule___init___l F22 (He.meth_ok (c.1.fact 60 (f := .meth "Sure" "again") rfl))).up (by decide)
    · exact (mk_Most_again_l (P := P) (w := w) (base := base) T c_i_Most_Rule___init___l F23 (He.meth_ok (c.1.fact 61 (f := .meth "Most" "again") rfl))).up (by decide)
    · exact (mk_Block_again_l (P := P) (w := w) (base := base) T c_i_Block_Rule___init___l F24 (He.meth_ok (c.1.fact 62 (f := .meth "Block" "again") rfl))).up (by decide)
  have c_d_Rule_filled : ∀ k, CalleeM P w K mg base (cn_Rule k) "filled" 6 2 (rr_d_Rule_filled k) := by
    intro k
    rcases k with _ | _ | _ | k
    · exact (mk_Rule_filled (P := P) (w := w) (base := base) T c_al_filled_words_filled c_d_Rule_again F25 (meth_as (c.ya 29 (y := .same "Fact" "Rule" "filled") rfl) (He.meth_ok (c.1.fact 63 (f := .meth "Fact" "filled") rfl)))).up (by decide)
    · exact (mk_Rule_filled (P := P) (w := w) (base := base) T c_al_filled_words_filled c_d_Rule_again F25 (meth_as (c.ya 30 (y := .same "Sure" "Rule" "filled") rfl) (He.meth_ok (c.1.fact 64 (f := .meth "Sure" "filled") rfl)))).up (by decide)
    · exact (mk_Rule_filled (P := P) (w := w) (base := base) T c_al_filled_words_filled c_d_Rule_again F25 (meth_as (c.ya 31 (y := .same "Most" "Rule" "filled") rfl) (He.meth_ok (c.1.fact 65 (f := .meth "Most" "filled") rfl)))).up (by decide)
    · exact (mk_Rule_filled (P := P) (w := w) (base := base) T c_al_filled_words_filled c_d_Rule_again F25 (meth_as (c.ya 32 (y := .same "Block" "Rule" "filled") rfl) (He.meth_ok (c.1.fact 66 (f := .meth "Block" "filled") rfl)))).up (by decide)
  have c_written_out := mk_written_out (P := P) (w := w) (base := base) T c_d_Rule_filled c_d_Rule_letters c_ways_of F26 (He.glo_ok X G (c.1.fact 18 (f := .glo "written_out") rfl))
  have c_law_good := mk_law_good (P := P) (w := w) (base := base) T  F27 (He.glo_ok X G (c.1.fact 19 (f := .glo "_law_good") rfl))
  exact ok_law T c_law_cell_at c_law_due c_law_good c_law_made c_law_mix c_law_specs c_law_text c_law_words c_written_out F28
end Lw
open PySem PySem.W PySem.Calls PyProof.Rows
set_option maxRecDepth 100000 in
set_option maxHeartbeats 0 in
theorem PySem.Challenge.cw_mostwise_k21_written_out_holds : PySem.Challenge.rw_mostwise_k21_written_out.Holds := by
  w_on; o_law
  refine HandSHeadRun.head_any (r := OpenLaw.row PySem.Challenge.rw_mostwise_k21_written_out) (q := view (OpenLaw.row PySem.Challenge.rw_mostwise_k21_written_out).prog [37]) (H := Lw.hkk) (ob := Lw.ob) (M := 20000) (loose := Lw.nms) (d := HandSHeadRun.topDef (OpenLaw.row PySem.Challenge.rw_mostwise_k21_written_out).prog 37) (kwd := []) Lw.ob_eq
    (by kernel_rfl) (fun s => by kernel_rfl) Lw.run (by kernel_rfl) (by kernel_rfl) (by kernel_rfl) (by rfl) (by first | assumption | decide +kernel) (by decide +kernel) ⟨rfl, rfl, rfl, rfl, rfl, by decide +kernel⟩ ?hw ?hc
  case hw => w_witness2
  case hc =>
    refine Vs.walkW (l := PySem.Challenge.rw_mostwise_k21_written_out) (k := 8) (x := "_law_script") (r := Lw.r_law) rfl (by kernel_rfl) ⟨rfl, by decide, by decide⟩ ?F ?R
    case F =>
      intro w mg fa h Y G hmg0
      obtain ⟨K, KX, c⟩ := Y
      have hmg : mg ("law" : PySem.Str) = some (.ref fa) := by
        have e : (HandSHeadRun.topDef (OpenLaw.row PySem.Challenge.rw_mostwise_k21_written_out).prog 37).name = ("law" : PySem.Str) := by kernel_rfl
        rw [← e]
        exact hmg0
      obtain ⟨fd, hb, hF⟩ := Lw.facts (P := (PySem.Challenge.rw_mostwise_k21_written_out).prog) (w := w) KX G hmg c
      exact ⟨K, fd, KX, hb, hF⟩
    case R => exact Lw.end_true
