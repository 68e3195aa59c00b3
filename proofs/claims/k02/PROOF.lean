import PyProof.Rows.All
import Wide.All
import OpenK.AllK
import Wide.FinOn
import HandS.ForMost
import HandS.Zip
import HandS.Rev
import HandS.RevRange
import HandS.TupAny
import HandS.TupMul
import HandS.TupSets
import HandS.DictTup
import HandS.DictComp
import HandS.DictEq
import HandS.DeepEq
import HandS.SortInts
import HandS.SortRule
import HandS.Style
import HandS.Conv
import HandS.Small
import HandS.Walk
import HandS.Wide
import HandS.IsInst
import HandS.Flow
import HandS.Gcd
import HandS.Deep
import HandS.TupLen
import KE.GoesMore
import KE.KRevIter
import HandS.EndBits
import PySem.Challenge.RW_knotsooth_k02_quotients_and_exchanged_le
set_option Elab.async false
set_option linter.all false
set_option maxRecDepth 100000
set_option maxHeartbeats 4000000
/-! A value layer over the hand layer: data as trees, slots that own what they may change. -/
namespace Vl
open PySem PySem.Spec PyProof.Rows L2

/-- a value as data; a list's or a dict's mark tells whether its holder alone knows it (and may change it) -/
inductive D where
  | non | bl (b : Bool) | int (i : Int) | str (s : Str)
  | tup (l : List D) | lst (o : Bool) (l : List D) | dct (o t : Bool) (l : List (D × D)) | scr (l : List D)

namespace D
mutual
/-- nothing within is owned -/
def noOwn : D → Bool
  | .tup l => noOwnL l
  | .lst o l => !o && noOwnL l
  | .dct o _ l => !o && noOwnP l
  | .scr l => noOwnL l
  | .non => true
  | .bl _ => true
  | .int _ => true
  | .str _ => true
def noOwnL : List D → Bool
  | [] => true
  | d :: r => noOwn d && noOwnL r
def noOwnP : List (D × D) → Bool
  | [] => true
  | (_, d) :: r => noOwn d && noOwnP r
end
mutual
/-- nothing within is a frozen list or dict -/
def noFz : D → Bool
  | .tup l => noFzL l
  | .lst o l => o && noFzL l
  | .dct o _ l => o && noFzP l
  | .scr l => noFzL l
  | .non => true
  | .bl _ => true
  | .int _ => true
  | .str _ => true
def noFzL : List D → Bool
  | [] => true
  | d :: r => noFz d && noFzL r
def noFzP : List (D × D) → Bool
  | [] => true
  | (_, d) :: r => noFz d && noFzP r
end
mutual
def frz : D → D
  | .tup l => .tup (frzL l)
  | .lst _ l => .lst false (frzL l)
  | .dct _ t l => .dct false t (frzP l)
  | .scr l => .scr (frzL l)
  | .non => .non
  | .bl b => .bl b
  | .int i => .int i
  | .str s => .str s
def frzL : List D → List D
  | [] => []
  | d :: r => frz d :: frzL r
def frzP : List (D × D) → List (D × D)
  | [] => []
  | (k, d) :: r => (k, frz d) :: frzP r
end
end D

abbrev Env := List (Option D)
def kD : Key → D
  | .inl i => .int i
  | .inr s => .str s

/-- a list that is known for good -/
def SqF (K : PySem.W.Frag) (H : Hp) (a : Addr) (xs : List V) : Prop :=
  (∃ o, H a = some (.frz o (.lst xs))) ∨
    ∃ (o : Obj) (its : Array Value) (n : Nat), K.lookup a = some o ∧ o.cls = .type "list" ∧ o.dict = none ∧ o.data = .seq its n ∧ its.size ≤ sizeLine ∧ Vals xs its.toList
theorem SqF.l {K : PySem.W.Frag} {H : Hp} {a : Addr} {xs : List V} (h : SqF K H a xs) : SqL K H a xs := by
  rcases h with h | h
  · exact .inl (.inr h)
  · exact .inr h
/-- a dict by its pairs: t, whether its keys are tuples -/
def DcH (t : Bool) (ks : List D) (vs : List V) (o : HO) : Prop := match t with
  | false => ∃ kvs : List (Key × V), o = .dK kvs ∧ ks = kvs.map (fun p => kD p.1) ∧ vs = kvs.map (·.2)
  | true => ∃ kvs : List (List Key × V), o = .dT kvs ∧ ks = kvs.map (fun p => .tup (p.1.map kD)) ∧ vs = kvs.map (·.2)
def DcAt (H : Hp) (a : Addr) (t : Bool) (ks : List D) (vs : List V) : Prop := ∃ o, H a = some o ∧ DcH t ks vs o
def DcLk (H : Hp) (a : Addr) (t : Bool) (ks : List D) (vs : List V) : Prop := ∃ od o, H a = some (.frz od o) ∧ DcH t ks vs o

section
variable (K : PySem.W.Frag) (Z : Addr → Prop) (H : Hp)
mutual
inductive R : D → V → List Addr → Prop
  | non : R .non .non []
  | bl (b : Bool) : R (.bl b) (.bl b) []
  | int (i : Int) : R (.int i) (.int i) []
  | str (s : Str) : R (.str s) (.str s) []
  | tup {a : Addr} {vs : List V} {ds : List D} {F : List Addr} : SqT K H a vs → Rs ds vs F → R (.tup ds) (.ref a) F
  | own {a : Addr} {vs : List V} {ds : List D} {F : List Addr} : H a = some (.lst vs) → Rs ds vs F → R (.lst true ds) (.ref a) (a :: F)
  | fzn {a : Addr} {vs : List V} {ds : List D} : H a = some (.lst vs) → Z a → Rs ds vs [] → R (.lst false ds) (.ref a) []
  | knw {a : Addr} {vs : List V} {ds : List D} : SqF K H a vs → Rs ds vs [] → R (.scr ds) (.ref a) []
  | dow {a : Addr} {t : Bool} {vs : List V} {kvs : List (D × D)} {F : List Addr} : DcAt H a t (kvs.map (·.1)) vs → Rs (kvs.map (·.2)) vs F → R (.dct true t kvs) (.ref a) (a :: F)
  | dfz {a : Addr} {t : Bool} {vs : List V} {kvs : List (D × D)} : DcAt H a t (kvs.map (·.1)) vs → Z a → Rs (kvs.map (·.2)) vs [] → R (.dct false t kvs) (.ref a) []
  | dlk {a : Addr} {t : Bool} {vs : List V} {kvs : List (D × D)} : DcLk H a t (kvs.map (·.1)) vs → Rs (kvs.map (·.2)) vs [] → R (.dct false t kvs) (.ref a) []
inductive Rs : List D → List V → List Addr → Prop
  | nil : Rs [] [] []
  | cons {d : D} {ds : List D} {v : V} {vs : List V} {F G : List Addr} : R d v F → Rs ds vs G → Rs (d :: ds) (v :: vs) (F ++ G)
end
end

/-- what is kept: all but M; tuples and known things always -/
structure Keep (M : Addr → Prop) (H H' : Hp) : Prop where
  out : ∀ a o, H a = some o → ¬ M a → H' a = some o
  tup : ∀ a xs, H a = some (.tup xs) → H' a = some (.tup xs)
  frz : ∀ a o u, H a = some (.frz o u) → H' a = some (.frz o u)
  dom : ∀ a, H a ≠ none → H' a ≠ none
abbrev M0 : Addr → Prop := fun _ => False
theorem Keep.refl (M : Addr → Prop) (H : Hp) : Keep M H H := ⟨fun _ _ h _ => h, fun _ _ h => h, fun _ _ _ h => h, fun _ h => h⟩
theorem Keep.new {M : Addr → Prop} {H : Hp} {p : Addr} {o : HO} (h : H p = none) : Keep M H (upd H p o) :=
  ⟨fun a u e _ => by rw [upd_ne (ne_of_none e h)]; exact e, fun a u e => by rw [upd_ne (ne_of_none e h)]; exact e, fun a u w e => by rw [upd_ne (ne_of_none e h)]; exact e,
    fun a e => by
      by_cases q : a = p
      · subst q; exact absurd h e
      · rw [upd_ne q]; exact e⟩
theorem Keep.trans {M M1 M2 : Addr → Prop} {H H1 H2 : Hp} (k1 : Keep M1 H H1) (k2 : Keep M2 H1 H2) (h1 : ∀ a, M1 a → M a) (h2 : ∀ a, M2 a → M a ∨ H a = none) : Keep M H H2 :=
  ⟨fun a o e n => k2.out a o (k1.out a o e fun z => n (h1 a z)) fun z => (h2 a z).elim n (fun q => by rw [q] at e; cases e),
    fun a xs e => k2.tup a xs (k1.tup a xs e), fun a o u e => k2.frz a o u (k1.frz a o u e), fun a e => k2.dom a (k1.dom a e)⟩
theorem Keep.mono {M M' : Addr → Prop} {H H' : Hp} (k : Keep M H H') (h : ∀ a, M a → M' a) : Keep M' H H' := ⟨fun a o e n => k.out a o e fun z => n (h a z), k.tup, k.frz, k.dom⟩
theorem Keep.tr0 {H H1 H2 : Hp} (k1 : Keep M0 H H1) (k2 : Keep M0 H1 H2) : Keep M0 H H2 := k1.trans k2 (fun _ h => h) fun _ h => h.elim
theorem Keep.back {M : Addr → Prop} {H H' : Hp} (k : Keep M H H') {a : Addr} (h : H' a = none) : H a = none := by
  cases e : H a with
  | none => rfl
  | some o => exact absurd h (k.dom a (by rw [e]; intro z; cases z))
/-- a list, a dict is written -/
theorem Keep.wr {H : Hp} {p : Addr} {o u : HO} (h : H p = some u) (hu : Mut (some u)) : Keep (fun a => a = p) H (upd H p o) := by
  refine ⟨fun a w e n => ?_, fun a xs e => ?_, fun a w z e => ?_, fun a e => ?_⟩
  · rw [upd_ne n]; exact e
  · by_cases q : a = p
    · subst q; rw [h] at e; cases e; exact hu.elim
    · rw [upd_ne q]; exact e
  · by_cases q : a = p
    · subst q; rw [h] at e; cases e; exact hu.elim
    · rw [upd_ne q]; exact e
  · by_cases q : a = p
    · subst q; rw [upd_same]; intro z; cases z
    · rw [upd_ne q]; exact e
theorem Keep.sqt {M : Addr → Prop} {K : PySem.W.Frag} {H H' : Hp} (k : Keep M H H') {a : Addr} {xs : List V} (h : SqT K H a xs) : SqT K H' a xs := by
  rcases h with (h | ⟨o, h⟩) | h
  · exact .inl (.inl (k.tup _ _ h))
  · exact .inl (.inr ⟨o, k.frz _ _ _ h⟩)
  · exact .inr h
theorem Keep.sqf {M : Addr → Prop} {K : PySem.W.Frag} {H H' : Hp} (k : Keep M H H') {a : Addr} {xs : List V} (h : SqF K H a xs) : SqF K H' a xs := by
  rcases h with ⟨o, h⟩ | h
  · exact .inl ⟨o, k.frz _ _ _ h⟩
  · exact .inr h
theorem Keep.dc {M : Addr → Prop} {H H' : Hp} (k : Keep M H H') {a : Addr} {t : Bool} {ks : List D} {vs : List V} (n : ¬ M a) (h : DcAt H a t ks vs) : DcAt H' a t ks vs := by
  obtain ⟨o, h, r⟩ := h
  exact ⟨o, k.out _ _ h n, r⟩
theorem Keep.dl {M : Addr → Prop} {H H' : Hp} (k : Keep M H H') {a : Addr} {t : Bool} {ks : List D} {vs : List V} (h : DcLk H a t ks vs) : DcLk H' a t ks vs := by
  obtain ⟨od, o, h, r⟩ := h
  exact ⟨od, o, k.frz _ _ _ h, r⟩
theorem app_eq_nil {F G : List Addr} (h : F ++ G = []) : F = [] ∧ G = [] := by
  cases F with
  | nil => exact ⟨rfl, h⟩
  | cons a r => cases h
section
variable {K : PySem.W.Frag} {Z Z' : Addr → Prop} {H H' : Hp}
mutual
/-- what a value's data lean on is kept -/
theorem R.keep {M : Addr → Prop} (k : Keep M H H') (hz : ∀ a, Z a → Z' a) (hm : ∀ a, Z a → ¬ M a) : ∀ {d : D} {v : V} {F : List Addr}, R K Z H d v F → (∀ a ∈ F, ¬ M a) → R K Z' H' d v F
  | _, _, _, .non, _ => .non
  | _, _, _, .bl b, _ => .bl b
  | _, _, _, .int i, _ => .int i
  | _, _, _, .str s, _ => .str s
  | _, _, _, .tup h r, hf => .tup (k.sqt h) (Rs.keep k hz hm r hf)
  | _, _, _, .own h r, hf => .own (k.out _ _ h (hf _ List.mem_cons_self)) (Rs.keep k hz hm r fun a ha => hf a (List.mem_cons_of_mem _ ha))
  | _, _, _, .fzn h z r, hf => .fzn (k.out _ _ h (hm _ z)) (hz _ z) (Rs.keep k hz hm r hf)
  | _, _, _, .knw h r, hf => .knw (k.sqf h) (Rs.keep k hz hm r hf)
  | _, _, _, .dow h r, hf => .dow (k.dc (hf _ List.mem_cons_self) h) (Rs.keep k hz hm r fun a ha => hf a (List.mem_cons_of_mem _ ha))
  | _, _, _, .dfz h z r, hf => .dfz (k.dc (hm _ z) h) (hz _ z) (Rs.keep k hz hm r hf)
  | _, _, _, .dlk h r, hf => .dlk (k.dl h) (Rs.keep k hz hm r hf)
theorem Rs.keep {M : Addr → Prop} (k : Keep M H H') (hz : ∀ a, Z a → Z' a) (hm : ∀ a, Z a → ¬ M a) : ∀ {ds : List D} {vs : List V} {F : List Addr}, Rs K Z H ds vs F → (∀ a ∈ F, ¬ M a) → Rs K Z' H' ds vs F
  | _, _, _, .nil, _ => .nil
  | _, _, _, .cons r rs, hf => .cons (R.keep k hz hm r fun a ha => hf a (List.mem_append_left _ ha)) (Rs.keep k hz hm rs fun a ha => hf a (List.mem_append_right _ ha))
end
theorem DcAt.tr {a : Addr} {t : Bool} {ks : List D} {vs : List V} (h : DcAt H a t ks vs) : H a ≠ none := by
  obtain ⟨o, h, r⟩ := h
  rw [h]
  intro z
  cases z
mutual
theorem R.tr : ∀ {d : D} {v : V} {F : List Addr}, R K Z H d v F → ∀ a ∈ F, H a ≠ none
  | _, _, _, .non, _, h => nomatch h
  | _, _, _, .bl b, _, h => nomatch h
  | _, _, _, .int i, _, h => nomatch h
  | _, _, _, .str s, _, h => nomatch h
  | _, _, _, .tup _ r, a, ha => Rs.tr r a ha
  | _, _, _, .own h r, a, ha => by
    rcases List.mem_cons.mp ha with rfl | ha
    · rw [h]; intro z; cases z
    · exact Rs.tr r a ha
  | _, _, _, .fzn _ _ _, _, h => nomatch h
  | _, _, _, .knw _ _, _, h => nomatch h
  | _, _, _, .dow h r, a, ha => by
    rcases List.mem_cons.mp ha with rfl | ha
    · exact h.tr
    · exact Rs.tr r a ha
  | _, _, _, .dfz _ _ _, _, h => nomatch h
  | _, _, _, .dlk _ _, _, h => nomatch h
theorem Rs.tr : ∀ {ds : List D} {vs : List V} {F : List Addr}, Rs K Z H ds vs F → ∀ a ∈ F, H a ≠ none
  | _, _, _, .nil, _, h => nomatch h
  | _, _, _, .cons r rs, a, ha => by
    rcases List.mem_append.mp ha with ha | ha
    · exact R.tr r a ha
    · exact Rs.tr rs a ha
end
theorem noOwnP_eq : ∀ l : List (D × D), D.noOwnP l = D.noOwnL (l.map (·.2))
  | [] => rfl
  | (k, d) :: r => by
    show (D.noOwn d && D.noOwnP r) = (D.noOwn d && D.noOwnL (r.map (·.2)))
    rw [noOwnP_eq r]
theorem frzP_fst : ∀ l : List (D × D), (D.frzP l).map (·.1) = l.map (·.1)
  | [] => rfl
  | (k, d) :: r => by
    show k :: (D.frzP r).map (·.1) = k :: r.map (·.1)
    rw [frzP_fst r]
theorem frzP_snd : ∀ l : List (D × D), (D.frzP l).map (·.2) = D.frzL (l.map (·.2))
  | [] => rfl
  | (k, d) :: r => by
    show D.frz d :: (D.frzP r).map (·.2) = D.frz d :: D.frzL (r.map (·.2))
    rw [frzP_snd r]
mutual
theorem R.no : ∀ {d : D} {v : V} {F : List Addr}, R K Z H d v F → d.noOwn = true → F = []
  | _, _, _, .non, _ => rfl
  | _, _, _, .bl b, _ => rfl
  | _, _, _, .int i, _ => rfl
  | _, _, _, .str s, _ => rfl
  | _, _, _, .tup _ r, h => Rs.no r h
  | _, _, _, .own _ _, h => by simp [D.noOwn] at h
  | _, _, _, .fzn _ _ _, _ => rfl
  | _, _, _, .knw _ _, _ => rfl
  | _, _, _, .dow _ _, h => by simp [D.noOwn] at h
  | _, _, _, .dfz _ _ _, _ => rfl
  | _, _, _, .dlk _ _, _ => rfl
theorem Rs.no : ∀ {ds : List D} {vs : List V} {F : List Addr}, Rs K Z H ds vs F → D.noOwnL ds = true → F = []
  | _, _, _, .nil, _ => rfl
  | _, _, _, .cons r rs, h => by
    have h : (D.noOwn _ && D.noOwnL _) = true := h
    rw [Bool.and_eq_true] at h
    rw [R.no r h.1, Rs.no rs h.2]
    rfl
end
mutual
/-- frozen: the owned things become things that stay -/
theorem R.freeze (hz : ∀ a, Z a → Z' a) : ∀ {d : D} {v : V} {F : List Addr}, R K Z H d v F → (∀ a ∈ F, Z' a) → R K Z' H d.frz v []
  | _, _, _, .non, _ => .non
  | _, _, _, .bl b, _ => .bl b
  | _, _, _, .int i, _ => .int i
  | _, _, _, .str s, _ => .str s
  | _, _, _, .tup h r, hf => .tup h (Rs.freeze hz r hf)
  | _, _, _, .own h r, hf => .fzn h (hf _ List.mem_cons_self) (Rs.freeze hz r fun a ha => hf a (List.mem_cons_of_mem _ ha))
  | _, _, _, .fzn h z r, hf => .fzn h (hz _ z) (Rs.freeze hz r hf)
  | _, _, _, .knw h r, hf => .knw h (Rs.freeze hz r hf)
  | _, _, _, .dow h r, hf => .dfz (by rw [frzP_fst]; exact h) (hf _ List.mem_cons_self) (by rw [frzP_snd]; exact Rs.freeze hz r fun a ha => hf a (List.mem_cons_of_mem _ ha))
  | _, _, _, .dfz h z r, hf => .dfz (by rw [frzP_fst]; exact h) (hz _ z) (by rw [frzP_snd]; exact Rs.freeze hz r hf)
  | _, _, _, .dlk h r, hf => .dlk (by rw [frzP_fst]; exact h) (by rw [frzP_snd]; exact Rs.freeze hz r hf)
theorem Rs.freeze (hz : ∀ a, Z a → Z' a) : ∀ {ds : List D} {vs : List V} {F : List Addr}, Rs K Z H ds vs F → (∀ a ∈ F, Z' a) → Rs K Z' H (D.frzL ds) vs []
  | _, _, _, .nil, _ => .nil
  | _, _, _, .cons r rs, hf => Rs.cons (F := []) (G := []) (R.freeze hz r fun a ha => hf a (List.mem_append_left _ ha)) (Rs.freeze hz rs fun a ha => hf a (List.mem_append_right _ ha))
end
theorem noFzP_eq : ∀ l : List (D × D), D.noFzP l = D.noFzL (l.map (·.2))
  | [] => rfl
  | (k, d) :: r => by
    show (D.noFz d && D.noFzP r) = (D.noFz d && D.noFzL (r.map (·.2)))
    rw [noFzP_eq r]
mutual
/-- without frozen things the known set does not matter -/
theorem R.any : ∀ {d : D} {v : V} {F : List Addr}, R K Z H d v F → d.noFz = true → R K Z' H d v F
  | _, _, _, .non, _ => .non
  | _, _, _, .bl b, _ => .bl b
  | _, _, _, .int i, _ => .int i
  | _, _, _, .str s, _ => .str s
  | _, _, _, .tup h r, hf => .tup h (Rs.any r hf)
  | _, _, _, .own h r, hf => .own h (Rs.any r (by simpa [D.noFz] using hf))
  | _, _, _, .fzn h z r, hf => by simp [D.noFz] at hf
  | _, _, _, .knw h r, hf => .knw h (Rs.any r (by simpa [D.noFz] using hf))
  | _, _, _, .dow h r, hf => .dow h (Rs.any r (by simpa [D.noFz, noFzP_eq] using hf))
  | _, _, _, .dfz h z r, hf => by simp [D.noFz] at hf
  | _, _, _, .dlk h r, hf => by simp [D.noFz] at hf
theorem Rs.any : ∀ {ds : List D} {vs : List V} {F : List Addr}, Rs K Z H ds vs F → D.noFzL ds = true → Rs K Z' H ds vs F
  | _, _, _, .nil, _ => .nil
  | _, _, _, .cons r rs, h => by
    have h : (D.noFz _ && D.noFzL _) = true := h
    rw [Bool.and_eq_true] at h
    exact .cons (R.any r h.1) (Rs.any rs h.2)
end
theorem Rs.length : ∀ {ds : List D} {vs : List V} {F : List Addr}, Rs K Z H ds vs F → ds.length = vs.length
  | _, _, _, .nil => rfl
  | _, _, _, .cons _ rs => congrArg (· + 1) rs.length
theorem Rs.get : ∀ {ds : List D} {vs : List V} {F : List Addr} {i : Nat} {d : D}, Rs K Z H ds vs F → ds[i]? = some d → ∃ v G, vs[i]? = some v ∧ R K Z H d v G ∧ ∀ a ∈ G, a ∈ F
  | _, _, _, _, _, .nil, e => by simp at e
  | _, _, _, 0, _, .cons r rs, e => by
    simp at e; subst e
    exact ⟨_, _, rfl, r, fun a ha => List.mem_append_left _ ha⟩
  | _, _, _, i + 1, d, .cons r rs, e => by
    obtain ⟨v, G, h1, h2, h3⟩ := Rs.get (i := i) (d := d) rs (by simpa using e)
    exact ⟨v, G, by simpa using h1, h2, fun a ha => List.mem_append_right _ (h3 a ha)⟩
theorem Rs.app : ∀ {ds es : List D} {vs ws : List V} {F G : List Addr}, Rs K Z H ds vs F → Rs K Z H es ws G → Rs K Z H (ds ++ es) (vs ++ ws) (F ++ G)
  | _, _, _, _, _, _, .nil, s => s
  | _, _, _, _, _, _, .cons r rs, s => by
    rw [List.append_assoc]
    exact .cons r (rs.app s)
theorem Rs.one {d : D} {v : V} {F : List Addr} (r : R K Z H d v F) : Rs K Z H [d] [v] F := by
  have e := Rs.cons r Rs.nil
  rwa [List.append_nil] at e
theorem Rs.nil_of {ds : List D} {vs : List V} {F : List Addr} (r : Rs K Z H ds vs F) (h : D.noOwnL ds = true) : Rs K Z H ds vs [] := by
  have e := Rs.no r h
  subst e
  exact r
theorem Rs.cons0 {d : D} {ds : List D} {v : V} {vs : List V} (r : R K Z H d v []) (rs : Rs K Z H ds vs []) : Rs K Z H (d :: ds) (v :: vs) [] := Rs.cons (F := []) (G := []) r rs
theorem Rs.uncons {d : D} {ds : List D} {vs : List V} {F : List Addr} (r : Rs K Z H (d :: ds) vs F) : ∃ v ws F1 F2, vs = v :: ws ∧ F = F1 ++ F2 ∧ R K Z H d v F1 ∧ Rs K Z H ds ws F2 := by
  cases r with
  | cons r rs => exact ⟨_, _, _, _, rfl, rfl, r, rs⟩
end
end Vl

namespace Vl
open PySem PySem.Spec PyProof.Rows L2

abbrev Ft := Nat → List Addr
/-- the slots' data: each owned thing has one holder -/
structure Rel (K : PySem.W.Frag) (Z : Addr → Prop) (ρ : Env) (σ : L2.St) (H : Hp) (Fs : Ft) : Prop where
  at_ : ∀ i d, ρ[i]? = some (some d) → ∃ v, σ[i]? = some (some v) ∧ R K Z H d v (Fs i)
  nd : ∀ i, (Fs i).Nodup
  dj : ∀ i j a, a ∈ Fs i → a ∈ Fs j → i = j
  nz : ∀ i a, a ∈ Fs i → ¬ Z a
  zt : ∀ a, Z a → H a ≠ none
  ft : ∀ i a, a ∈ Fs i → H a ≠ none
  len : ρ.length = σ.length

/-- what a step may touch: the slots T -/
structure Frm (T : List Nat) (Z : Addr → Prop) (ρ : Env) (Fs : Ft) (H : Hp) (Z' : Addr → Prop) (ρ' : Env) (Fs' : Ft) (H' : Hp) : Prop where
  sub : ∀ j, j ∉ T → Fs' j = Fs j ∧ ρ'[j]? = ρ[j]?
  keep : Keep (fun a => ∃ j ∈ T, a ∈ Fs j) H H'
  c1 : ∀ j ∈ T, ∀ a ∈ Fs' j, (∃ i ∈ T, a ∈ Fs i) ∨ H a = none
  c3 : ∀ a, Z' a → Z a ∨ (∃ i ∈ T, a ∈ Fs i) ∨ H a = none
  zz : ∀ a, Z a → Z' a
  len : ρ'.length = ρ.length

structure Val (K : PySem.W.Frag) (Z : Addr → Prop) (H : Hp) (Fs : Ft) (O : List Nat) (x : Bool) (d : D) (v : V) (F : List Addr) : Prop where
  r : R K Z H d v F
  ori : ∀ j a, a ∈ F → a ∈ Fs j → j ∈ O
  exc : x = true → F.Nodup ∧ ∀ a ∈ F, ¬ Z a
structure Vls (K : PySem.W.Frag) (Z : Addr → Prop) (H : Hp) (Fs : Ft) (O : List Nat) (x : Bool) (ds : List D) (vs : List V) (F : List Addr) : Prop where
  r : Rs K Z H ds vs F
  ori : ∀ j a, a ∈ F → a ∈ Fs j → j ∈ O
  exc : x = true → F.Nodup ∧ ∀ a ∈ F, ¬ Z a
/-- where an exclusive value's things come from -/
def Cf (T : List Nat) (Fs : Ft) (H : Hp) (x : Bool) (F : List Addr) : Prop := x = true → ∀ a ∈ F, (∃ j ∈ T, a ∈ Fs j) ∨ H a = none

def safe (O T : List Nat) (d : D) : Bool := O.all (fun i => !T.contains i) || d.noOwn
def safeL (O T : List Nat) (ds : List D) : Bool := O.all (fun i => !T.contains i) || D.noOwnL ds

section
variable {T T1 T2 O O1 O2 : List Nat} {K : PySem.W.Frag} {Z Z' Z1 Z2 : Addr → Prop} {ρ ρ' ρ1 ρ2 : Env} {Fs Fs' Fs1 Fs2 : Ft} {H H' H1 H2 : Hp} {x : Bool} {d : D} {v : V} {F : List Addr} {σ : L2.St}
theorem Frm.refl (T : List Nat) : Frm T Z ρ Fs H Z ρ Fs H := ⟨fun _ _ => ⟨rfl, rfl⟩, Keep.refl _ _, fun j hj a ha => .inl ⟨j, hj, ha⟩, fun _ h => .inl h, fun _ h => h, rfl⟩
theorem Frm.trans (f1 : Frm T1 Z ρ Fs H Z1 ρ1 Fs1 H1) (f2 : Frm T2 Z1 ρ1 Fs1 H1 Z2 ρ2 Fs2 H2) : Frm (T1 ++ T2) Z ρ Fs H Z2 ρ2 Fs2 H2 := by
  have up1 : ∀ {a}, (∃ i ∈ T1, a ∈ Fs i) → ∃ i ∈ T1 ++ T2, a ∈ Fs i := fun ⟨i, hi, ha⟩ => ⟨i, List.mem_append_left _ hi, ha⟩
  have mid : ∀ {a}, (∃ i ∈ T2, a ∈ Fs1 i) → (∃ i ∈ T1 ++ T2, a ∈ Fs i) ∨ H a = none := fun {a} ⟨i, hi, ha⟩ => by
    by_cases h : i ∈ T1
    · exact (f1.c1 i h a ha).imp up1 id
    · rw [(f1.sub i h).1] at ha
      exact .inl ⟨i, List.mem_append_right _ hi, ha⟩
  refine ⟨fun j hj => ?_, f1.keep.trans f2.keep (fun a h => up1 h) fun a h => mid h, fun j hj a ha => ?_, fun a h => ?_, fun a h => f2.zz a (f1.zz a h), f2.len.trans f1.len⟩
  · have h1 : j ∉ T1 := fun z => hj (List.mem_append_left _ z)
    have h2 : j ∉ T2 := fun z => hj (List.mem_append_right _ z)
    exact ⟨(f2.sub j h2).1.trans (f1.sub j h1).1, (f2.sub j h2).2.trans (f1.sub j h1).2⟩
  · by_cases h2 : j ∈ T2
    · rcases f2.c1 j h2 a ha with h | h
      · exact mid h
      · exact .inr (f1.keep.back h)
    · rw [(f2.sub j h2).1] at ha
      rcases List.mem_append.mp hj with h1 | h1
      · exact (f1.c1 j h1 a ha).imp up1 id
      · exact absurd h1 h2
  · rcases f2.c3 a h with h | h | h
    · exact (f1.c3 a h).imp id fun h => h.imp up1 id
    · exact .inr (mid h)
    · exact .inr (.inr (f1.keep.back h))
theorem Frm.mono (f : Frm T Z ρ Fs H Z' ρ' Fs' H') (h : ∀ i ∈ T, i ∈ T1) : Frm T1 Z ρ Fs H Z' ρ' Fs' H' := by
  have up : ∀ {a}, (∃ i ∈ T, a ∈ Fs i) → ∃ i ∈ T1, a ∈ Fs i := fun ⟨i, hi, ha⟩ => ⟨i, h i hi, ha⟩
  refine ⟨fun j hj => f.sub j fun z => hj (h j z), f.keep.mono fun a z => up z, fun j hj a ha => ?_, fun a z => (f.c3 a z).imp id fun z => z.imp up id, f.zz, f.len⟩
  by_cases q : j ∈ T
  · exact (f.c1 j q a ha).imp up id
  · rw [(f.sub j q).1] at ha
    exact .inl ⟨j, hj, ha⟩
/-- a pure step -/
theorem Frm.pure (k : Keep M0 H H') : Frm [] Z ρ Fs H Z ρ Fs H' :=
  ⟨fun _ _ => ⟨rfl, rfl⟩, k.mono fun _ h => h.elim, fun _ h => (by cases h), fun _ h => .inl h, fun _ h => h, rfl⟩
theorem Frm.pureT (T : List Nat) (k : Keep M0 H H') : Frm T Z ρ Fs H Z ρ Fs H' := (Frm.pure k).mono fun _ h => (by cases h)

theorem safe_or (h : safe O T d = true) : (∀ i ∈ O, i ∉ T) ∨ d.noOwn = true := by
  unfold safe at h
  rw [Bool.or_eq_true] at h
  refine h.imp (fun h i hi ht => ?_) id
  have := List.all_eq_true.mp h i hi
  simp [ht] at this
theorem safeL_or {ds : List D} (h : safeL O T ds = true) : (∀ i ∈ O, i ∉ T) ∨ D.noOwnL ds = true := by
  unfold safeL at h
  rw [Bool.or_eq_true] at h
  refine h.imp (fun h i hi ht => ?_) id
  have := List.all_eq_true.mp h i hi
  simp [ht] at this
/-- things outside of what a step touches -/
theorem Frm.far (f : Frm T Z ρ Fs H Z' ρ' Fs' H') (ho : ∀ j a, a ∈ F → a ∈ Fs j → j ∈ O) (hs : ∀ i ∈ O, i ∉ T) : ∀ a ∈ F, ¬ ∃ j ∈ T, a ∈ Fs j := fun a ha ⟨j, hj, hf⟩ => hs j (ho j a ha hf) hj
/-- a value stays through a later step -/
theorem Val.keep (w : Val K Z H Fs O x d v F) (rel : Rel K Z ρ σ H Fs) (f : Frm T Z ρ Fs H Z' ρ' Fs' H') (hs : safe O T d = true) : Val K Z' H' Fs' O x d v F := by
  rcases safe_or hs with hs | hn
  · have far := f.far w.ori hs
    have tr := w.r.tr
    refine ⟨w.r.keep f.keep f.zz (fun a z ⟨j, hj, ha⟩ => rel.nz j a ha z) far, fun j a ha hj => ?_, fun hx => ⟨(w.exc hx).1, fun a ha z => ?_⟩⟩
    · by_cases h : j ∈ T
      · rcases f.c1 j h a hj with q | q
        · exact absurd q (far a ha)
        · exact absurd q (tr a ha)
      · rw [(f.sub j h).1] at hj
        exact w.ori j a ha hj
    · rcases f.c3 a z with q | q | q
      · exact (w.exc hx).2 a ha q
      · exact far a ha q
      · exact tr a ha q
  · have e := w.r.no hn
    subst e
    exact ⟨w.r.keep f.keep f.zz (fun a z ⟨j, hj, ha⟩ => rel.nz j a ha z) (fun a h => (by cases h)), fun j a ha => (by cases ha), fun _ => ⟨List.nodup_nil, fun a ha => (by cases ha)⟩⟩
theorem Vls.keep {ds : List D} {vs : List V} (w : Vls K Z H Fs O x ds vs F) (rel : Rel K Z ρ σ H Fs) (f : Frm T Z ρ Fs H Z' ρ' Fs' H') (hs : safeL O T ds = true) : Vls K Z' H' Fs' O x ds vs F := by
  rcases safeL_or hs with hs | hn
  · have far := f.far w.ori hs
    have tr := w.r.tr
    refine ⟨w.r.keep f.keep f.zz (fun a z ⟨j, hj, ha⟩ => rel.nz j a ha z) far, fun j a ha hj => ?_, fun hx => ⟨(w.exc hx).1, fun a ha z => ?_⟩⟩
    · by_cases h : j ∈ T
      · rcases f.c1 j h a hj with q | q
        · exact absurd q (far a ha)
        · exact absurd q (tr a ha)
      · rw [(f.sub j h).1] at hj
        exact w.ori j a ha hj
    · rcases f.c3 a z with q | q | q
      · exact (w.exc hx).2 a ha q
      · exact far a ha q
      · exact tr a ha q
  · have e := w.r.no hn
    subst e
    exact ⟨w.r.keep f.keep f.zz (fun a z ⟨j, hj, ha⟩ => rel.nz j a ha z) (fun a h => (by cases h)), fun j a ha => (by cases ha), fun _ => ⟨List.nodup_nil, fun a ha => (by cases ha)⟩⟩
/-- the slots through a pure step -/
theorem Rel.keep0 (r : Rel K Z ρ σ H Fs) (k : Keep M0 H H') : Rel K Z ρ σ H' Fs :=
  ⟨fun i d e => let ⟨v, h1, h2⟩ := r.at_ i d e; ⟨v, h1, h2.keep k (fun _ h => h) (fun _ _ h => h) fun _ _ h => h⟩, r.nd, r.dj, r.nz, fun a h => k.dom a (r.zt a h), fun i a h => k.dom a (r.ft i a h), r.len⟩
end

/-! ### the judgements -/
abbrev M (α : Type) := Env → Option (α × Env)
def tV (K : PySem.W.Frag) (T O : List Nat) (x : Bool) (f : M D) : TE := fun σ H Q => ∃ Z ρ Fs d ρ', Rel K Z ρ σ H Fs ∧ f ρ = some (d, ρ') ∧
  ∀ v H' Z' Fs' F, Rel K Z' ρ' σ H' Fs' → Frm T Z ρ Fs H Z' ρ' Fs' H' → Val K Z' H' Fs' O x d v F → Cf T Fs H x F → Q v H'
def tVL (K : PySem.W.Frag) (T O : List Nat) (x : Bool) (f : M (List D)) : TA := fun σ H Q => ∃ Z ρ Fs ds ρ', Rel K Z ρ σ H Fs ∧ f ρ = some (ds, ρ') ∧
  ∀ vs H' Z' Fs' F, Rel K Z' ρ' σ H' Fs' → Frm T Z ρ Fs H Z' ρ' Fs' H' → Vls K Z' H' Fs' O x ds vs F → Cf T Fs H x F → Q vs H'
def tVT (K : PySem.W.Frag) (T : List Nat) (f : M Bool) : TT := fun σ H Q => ∃ Z ρ Fs b ρ', Rel K Z ρ σ H Fs ∧ f ρ = some (b, ρ') ∧
  ∀ H' Z' Fs', Rel K Z' ρ' σ H' Fs' → Frm T Z ρ Fs H Z' ρ' Fs' H' → Q b H'
abbrev PEV (X : Cx) (T O : List Nat) (x : Bool) (e : Expr) (f : M D) : Prop := PE X e (tV X.K T O x f)
abbrev PAV (X : Cx) (T O : List Nat) (x : Bool) (es : List Expr) (f : M (List D)) : Prop := PA X es (tVL X.K T O x f)
abbrev PTV (X : Cx) (T : List Nat) (e : Expr) (f : M Bool) : Prop := PT X e (tVT X.K T f)

theorem PE.imp {X : Cx} {e : Expr} {t t' : TE} (h : PE X e t) (i : ∀ σ H Q, t' σ H Q → t σ H Q) : PE X e t' := ⟨fun pins s σ H Q I q => h.run pins s σ H Q I (i σ H Q q)⟩
theorem PT.imp {X : Cx} {e : Expr} {t t' : TT} (h : PT X e t) (i : ∀ σ H Q, t' σ H Q → t σ H Q) : PT X e t' := ⟨fun pins s σ H Q I q => h.run pins s σ H Q I (i σ H Q q)⟩
theorem PW.imp {X : Cx} {e : Expr} {t t' : TT} (h : PW X e t) (i : ∀ σ H Q, t' σ H Q → t σ H Q) : PW X e t' := ⟨fun wh pins s σ H Q I q => h.run wh pins s σ H Q I (i σ H Q q)⟩
theorem PA.imp {X : Cx} {e : List Expr} {t t' : TA} (h : PA X e t) (i : ∀ σ H Q, t' σ H Q → t σ H Q) : PA X e t' := ⟨fun p pins s σ H Q I q => h.run p pins s σ H Q I (i σ H Q q)⟩
theorem PS.imp {X : Cx} {e : Stmt} {t t' : TS} (h : PS X e t) (i : ∀ D σ H, t' D σ H → t D σ H) : PS X e t' := ⟨fun pins s σ H D I q => h.run pins s σ H D I (i D σ H q)⟩
theorem PSs.imp {X : Cx} {e : List Stmt} {t t' : TS} (h : PSs X e t) (i : ∀ D σ H, t' D σ H → t D σ H) : PSs X e t' := ⟨fun pins s σ H D I q => h.run pins s σ H D I (i D σ H q)⟩
end Vl

namespace Vl
open PySem PySem.Spec PyProof.Rows L2

def Env.at (ρ : Env) (i : Nat) : Option D := match ρ[i]? with
  | some (some d) => some d
  | _ => none
theorem Env.at_some {ρ : Env} {i : Nat} {d : D} (h : Env.at ρ i = some d) : ρ[i]? = some (some d) := by
  unfold Env.at at h
  split at h
  · rename_i e q
    cases h
    exact q
  · cases h
theorem Env.lt {ρ : Env} {i : Nat} {o : Option D} (h : ρ[i]? = some o) : i < ρ.length := (List.getElem?_eq_some_iff.mp h).1

def fVar (i : Nat) : M D := fun ρ => (Env.at ρ i).bind fun d => some (d, ρ)
def fVal (i : Nat) : M D := fun ρ => (Env.at ρ i).bind fun d => if d.noOwn = true then some (d, ρ) else none
def fMov (i : Nat) : M D := fun ρ => (Env.at ρ i).bind fun d => some (d, ρ.set i none)
def fAli (i : Nat) : M D := fun ρ => (Env.at ρ i).bind fun d => if d.noOwn = true then some (d, ρ) else some (d.frz, ρ.set i (some d.frz))
def fC (d : D) : M D := fun ρ => some (d, ρ)
def chk (f : M D) : M D := fun ρ => (f ρ).bind fun p => if p.1.noOwn = true then some p else none
def fOp (O1 T2 : List Nat) (g : D → D → Option D) (fa fb : M D) : M D := fun ρ => (fa ρ).bind fun p => (fb p.2).bind fun q => if safe O1 T2 p.1 = true then (g p.1 q.1).bind fun d => some (d, q.2) else none
def fUn (g : D → Option D) (fa : M D) : M D := fun ρ => (fa ρ).bind fun p => (g p.1).bind fun d => some (d, p.2)
def fNil : M (List D) := fun ρ => some ([], ρ)
def fCons (O1 T2 : List Nat) (fa : M D) (fr : M (List D)) : M (List D) := fun ρ => (fa ρ).bind fun p => (fr p.2).bind fun q => if safe O1 T2 p.1 = true then some (p.1 :: q.1, q.2) else none

section
variable {X : Cx} {T T1 T2 O O1 O2 : List Nat} {x x1 x2 : Bool} {a b c e : Expr} {es : List Expr} {fa fb fc f : M D} {fr : M (List D)} {pos : Pos}

theorem Val.imm {K : PySem.W.Frag} {Z : Addr → Prop} {H : Hp} {Fs : Ft} {d : D} {v : V} {F : List Addr} (r : R K Z H d v F) (h : d.noOwn = true) : Val K Z H Fs [] true d v [] := by
  have e := r.no h
  subst e
  exact ⟨r, fun _ _ h => (by cases h), fun _ => ⟨List.nodup_nil, fun _ h => (by cases h)⟩⟩
theorem Cf.nil {T : List Nat} {Fs : Ft} {H : Hp} {x : Bool} : Cf T Fs H x [] := fun _ _ h => (by cases h)

/-! ### names -/
theorem pev_var (i : Nat) {y : Str} (hN : X.N[i]? = some y := by rfl) (hv : Vis X.env.scope y := by first | exact Or.inl rfl | exact Or.inr (Or.inl rfl) | exact Or.inr (Or.inr rfl)) (hd : (y == ("__debug__" : Str)) = false := by decide)
    (hcd : (y == ("__classdict__" : Str)) = false := by decide) : PEV X [] [i] false (.Name y pos) (fVar i) := by
  refine PE.imp (pe_var hN hv hd hcd) fun σ H Q h => ?_
  obtain ⟨Z, ρ, Fs, d, ρ', rel, hf, q⟩ := h
  unfold fVar at hf
  obtain ⟨d', hd', hf⟩ := Option.bind_eq_some_iff.mp hf
  cases hf
  obtain ⟨v, hs, r⟩ := rel.at_ i d (Env.at_some hd')
  exact ⟨v, hs, q v H Z Fs (Fs i) rel (Frm.refl _) ⟨r, fun j a h1 h2 => by rw [rel.dj i j a h1 h2]; exact List.mem_cons_self, fun h => (by cases h)⟩ fun h => (by cases h)⟩
theorem pev_chk (h : PEV X T O x e f) : PEV X T [] true e (chk f) := by
  refine PE.imp h fun σ H Q h => ?_
  obtain ⟨Z, ρ, Fs, d, ρ', rel, hf, q⟩ := h
  unfold chk at hf
  obtain ⟨p, hp, hf⟩ := Option.bind_eq_some_iff.mp hf
  split at hf
  · rename_i hn
    cases hf
    refine ⟨Z, ρ, Fs, d, ρ', rel, hp, fun v H' Z' Fs' F r' f' w cf => ?_⟩
    exact q v H' Z' Fs' [] r' f' (Val.imm w.r hn) Cf.nil
  · cases hf
theorem pev_val (i : Nat) {y : Str} (hN : X.N[i]? = some y := by rfl) (hv : Vis X.env.scope y := by first | exact Or.inl rfl | exact Or.inr (Or.inl rfl) | exact Or.inr (Or.inr rfl)) (hd : (y == ("__debug__" : Str)) = false := by decide)
    (hcd : (y == ("__classdict__" : Str)) = false := by decide) : PEV X [] [] true (.Name y pos) (fVal i) := by
  refine PE.imp (pev_chk (pev_var i hN hv hd hcd)) fun σ H Q h => ?_
  obtain ⟨Z, ρ, Fs, d, ρ', rel, hf, q⟩ := h
  refine ⟨Z, ρ, Fs, d, ρ', rel, ?_, q⟩
  unfold fVal at hf
  obtain ⟨d', hd', hf⟩ := Option.bind_eq_some_iff.mp hf
  unfold chk fVar
  rw [hd']
  split at hf
  · rename_i hn
    cases hf
    simp [hn]
  · cases hf
theorem Rel.drop {K : PySem.W.Frag} {Z : Addr → Prop} {ρ : Env} {σ : L2.St} {H : Hp} {Fs : Ft} (rel : Rel K Z ρ σ H Fs) (i : Nat) : Rel K Z (ρ.set i none) σ H (fun j => if j = i then [] else Fs j) := by
  refine ⟨fun j d e => ?_, fun j => ?_, fun j k a h1 h2 => ?_, fun j a h => ?_, rel.zt, fun j a h => ?_, by rw [List.length_set]; exact rel.len⟩
  · by_cases q : j = i
    · subst q
      by_cases hl : j < ρ.length
      · rw [List.getElem?_set_self hl] at e; cases e
      · rw [List.getElem?_eq_none (by simpa using hl)] at e; cases e
    · rw [List.getElem?_set_ne (Ne.symm q)] at e
      simp only [if_neg q]
      exact rel.at_ j d e
  · by_cases q : j = i
    · simp only [if_pos q]; exact List.nodup_nil
    · simp only [if_neg q]; exact rel.nd j
  · by_cases q : j = i
    · simp only [if_pos q] at h1; cases h1
    · by_cases p : k = i
      · simp only [if_pos p] at h2; cases h2
      · simp only [if_neg q] at h1
        simp only [if_neg p] at h2
        exact rel.dj j k a h1 h2
  · by_cases q : j = i
    · simp only [if_pos q] at h; cases h
    · simp only [if_neg q] at h; exact rel.nz j a h
  · by_cases q : j = i
    · simp only [if_pos q] at h; cases h
    · simp only [if_neg q] at h; exact rel.ft j a h
theorem Frm.drop {Z : Addr → Prop} {ρ : Env} {Fs : Ft} {H : Hp} (i : Nat) : Frm [i] Z ρ Fs H Z (ρ.set i none) (fun j => if j = i then [] else Fs j) H := by
  refine ⟨fun j hj => ?_, Keep.refl _ _, fun j hj a ha => ?_, fun a h => .inl h, fun a h => h, by rw [List.length_set]⟩
  · have q : j ≠ i := fun e => hj (by rw [e]; exact List.mem_cons_self)
    exact ⟨if_neg q, List.getElem?_set_ne (Ne.symm q)⟩
  · have e : j = i := by simpa using hj
    subst e
    simp at ha
/-- the slot gives its value away -/
theorem pev_mov (i : Nat) {y : Str} (hN : X.N[i]? = some y := by rfl) (hv : Vis X.env.scope y := by first | exact Or.inl rfl | exact Or.inr (Or.inl rfl) | exact Or.inr (Or.inr rfl)) (hd : (y == ("__debug__" : Str)) = false := by decide)
    (hcd : (y == ("__classdict__" : Str)) = false := by decide) : PEV X [i] [] true (.Name y pos) (fMov i) := by
  refine PE.imp (pe_var hN hv hd hcd) fun σ H Q h => ?_
  obtain ⟨Z, ρ, Fs, d, ρ', rel, hf, q⟩ := h
  unfold fMov at hf
  obtain ⟨d', hd', hf⟩ := Option.bind_eq_some_iff.mp hf
  cases hf
  obtain ⟨v, hs, r⟩ := rel.at_ i d (Env.at_some hd')
  refine ⟨v, hs, q v H Z _ (Fs i) (rel.drop i) (Frm.drop i) ⟨r, fun j a h1 h2 => ?_, fun _ => ⟨rel.nd i, fun a h => rel.nz i a h⟩⟩ fun _ a h => .inl ⟨i, List.mem_cons_self, h⟩⟩
  by_cases p : j = i
  · simp [p] at h2
  · simp only [if_neg p] at h2
    exact absurd (rel.dj i j a h1 h2).symm p
/-- the slot shares its value: it is frozen -/
theorem pev_ali (i : Nat) {y : Str} (hN : X.N[i]? = some y := by rfl) (hv : Vis X.env.scope y := by first | exact Or.inl rfl | exact Or.inr (Or.inl rfl) | exact Or.inr (Or.inr rfl)) (hd : (y == ("__debug__" : Str)) = false := by decide)
    (hcd : (y == ("__classdict__" : Str)) = false := by decide) : PEV X [i] [] true (.Name y pos) (fAli i) := by
  refine PE.imp (pe_var hN hv hd hcd) fun σ H Q h => ?_
  obtain ⟨Z, ρ, Fs, d, ρ', rel, hf, q⟩ := h
  unfold fAli at hf
  obtain ⟨d', hd', hf⟩ := Option.bind_eq_some_iff.mp hf
  have ha := Env.at_some hd'
  obtain ⟨v, hs, r⟩ := rel.at_ i d' ha
  refine ⟨v, hs, ?_⟩
  split at hf
  · rename_i hn
    cases hf
    have e := r.no hn
    exact q v H Z Fs [] rel (Frm.refl _) (Val.imm r hn) Cf.nil
  · cases hf
    have hl := Env.lt ha
    have r2 : R X.K (fun a => Z a ∨ a ∈ Fs i) H d'.frz v [] := r.freeze (fun _ h => .inl h) fun a h => .inr h
    refine q v H (fun a => Z a ∨ a ∈ Fs i) (fun j => if j = i then [] else Fs j) [] ⟨fun j d e => ?_, (rel.drop i).nd, (rel.drop i).dj, fun j a h z => ?_, fun a h => ?_, (rel.drop i).ft, by rw [List.length_set]; exact rel.len⟩
      ⟨fun j hj => ?_, Keep.refl _ _, fun j hj a h => ?_, fun a h => ?_, fun a h => .inl h, by rw [List.length_set]⟩ ⟨r2, fun j a h => (by cases h), fun _ => ⟨List.nodup_nil, fun a h => (by cases h)⟩⟩ Cf.nil
    · by_cases p : j = i
      · subst p
        rw [List.getElem?_set_self hl] at e
        cases e
        simp only [if_pos rfl]
        exact ⟨v, hs, r2⟩
      · rw [List.getElem?_set_ne (Ne.symm p)] at e
        simp only [if_neg p]
        obtain ⟨v', h1, h2⟩ := rel.at_ j d e
        exact ⟨v', h1, h2.keep (Keep.refl M0 H) (fun _ h => .inl h) (fun _ _ h => h) fun _ _ h => h⟩
    · by_cases p : j = i
      · simp [p] at h
      · simp only [if_neg p] at h
        rcases z with z | z
        · exact rel.nz j a h z
        · exact p (rel.dj j i a h z)
    · rcases h with h | h
      · exact rel.zt a h
      · exact rel.ft i a h
    · have p : j ≠ i := fun e => hj (by rw [e]; exact List.mem_cons_self)
      exact ⟨if_neg p, List.getElem?_set_ne (Ne.symm p)⟩
    · have e : j = i := by simpa using hj
      subst e
      simp at h
    · rcases h with h | h
      · exact .inl h
      · exact .inr (.inl ⟨i, List.mem_cons_self, h⟩)
end
end Vl

namespace Vl
open PySem PySem.Spec PyProof.Rows L2

/-- a two-place operation on data, its answer new -/
def OpS (K : PySem.W.Frag) (r : R2) (g : D → D → Option D) : Prop := ∀ (Z : Addr → Prop) (H : Hp) (d1 d2 : D) (v1 v2 : V) (F1 F2 : List Addr) (d : D) (Q : VK), R K Z H d1 v1 F1 → R K Z H d2 v2 F2 → g d1 d2 = some d →
  (∀ v H' F, Keep M0 H H' → R K Z H' d v F → F.Nodup → (∀ a ∈ F, H a = none) → Q v H') → r v1 v2 H Q
/-- its answer a part of the first -/
def OpW (K : PySem.W.Frag) (r : R2) (g : D → D → Option D) : Prop := ∀ (Z : Addr → Prop) (H : Hp) (d1 d2 : D) (v1 v2 : V) (F1 F2 : List Addr) (d : D) (Q : VK), R K Z H d1 v1 F1 → R K Z H d2 v2 F2 → g d1 d2 = some d →
  (∀ v H' F, Keep M0 H H' → R K Z H' d v F → (∀ a ∈ F, a ∈ F1) → Q v H') → r v1 v2 H Q
def UnS (K : PySem.W.Frag) (r : V → Hp → VK → Prop) (g : D → Option D) : Prop := ∀ (Z : Addr → Prop) (H : Hp) (d1 : D) (v1 : V) (F1 : List Addr) (d : D) (Q : VK), R K Z H d1 v1 F1 → g d1 = some d →
  (∀ v H' F, Keep M0 H H' → R K Z H' d v F → F.Nodup → (∀ a ∈ F, H a = none) → Q v H') → r v1 H Q
def ClS (K : PySem.W.Frag) (r : List V → Hp → VK → Prop) (g : List D → Option D) : Prop := ∀ (Z : Addr → Prop) (H : Hp) (ds : List D) (vs : List V) (F1 : List Addr) (d : D) (Q : VK), Rs K Z H ds vs F1 → g ds = some d →
  (∀ v H' F, Keep M0 H H' → R K Z H' d v F → F.Nodup → (∀ a ∈ F, H a = none) → Q v H') → r vs H Q

section
variable {K : PySem.W.Frag} {Z Z' Z1 Z2 : Addr → Prop} {ρ ρ' ρ1 ρ2 : Env} {Fs Fs' Fs1 Fs2 : Ft} {H H' H1 H2 : Hp} {T T1 T2 O O1 O2 : List Nat} {x : Bool} {d : D} {v : V} {F : List Addr} {σ : L2.St}
/-- a new value -/
theorem Val.new (rel : Rel K Z ρ σ H Fs) (r : R K Z H' d v F) (nd : F.Nodup) (nw : ∀ a ∈ F, H a = none) : Val K Z H' Fs [] true d v F :=
  ⟨r, fun j a h1 h2 => absurd (nw a h1) (rel.ft j a h2), fun _ => ⟨nd, fun a h z => rel.zt a z (nw a h)⟩⟩
theorem Cf.new {Fs0 : Ft} {H0 : Hp} {M : Addr → Prop} (k : Keep M H0 H) (nw : ∀ a ∈ F, H a = none) : Cf T Fs0 H0 x F := fun _ a h => .inr (k.back (nw a h))
theorem Cf.mono (h : Cf T Fs H x F) (i : ∀ j ∈ T, j ∈ T1) : Cf T1 Fs H x F := fun hx a ha => (h hx a ha).imp (fun ⟨j, hj, q⟩ => ⟨j, i j hj, q⟩) id
/-- a value that a second step made, told from the start -/
theorem Cf.late (f1 : Frm T1 Z ρ Fs H Z1 ρ1 Fs1 H1) (h : Cf T2 Fs1 H1 x F) : Cf (T1 ++ T2) Fs H x F := fun hx a ha => by
  rcases h hx a ha with ⟨j, hj, q⟩ | q
  · by_cases h1 : j ∈ T1
    · exact (f1.c1 j h1 a q).imp (fun ⟨i, hi, z⟩ => ⟨i, List.mem_append_left _ hi, z⟩) id
    · rw [(f1.sub j h1).1] at q
      exact .inl ⟨j, List.mem_append_right _ hj, q⟩
  · exact .inr (f1.keep.back q)
theorem Cf.early (h : Cf T1 Fs H x F) : Cf (T1 ++ T2) Fs H x F := h.mono fun j hj => List.mem_append_left _ hj
end

section
variable {X : Cx} {T T1 T2 T3 O O1 O2 O3 : List Nat} {x x1 x2 x3 : Bool} {a b c e : Expr} {es : List Expr} {fa fb fc f : M D} {fr : M (List D)} {pos : Pos} {r r' : R2} {g g' : D → D → Option D}
theorem tv_op (hs : OpS X.K r g) {σ : L2.St} {H : Hp} {Q : VK} (h : tV X.K (T1 ++ T2) [] true (fOp O1 T2 g fa fb) σ H Q) : tOp r (tV X.K T1 O1 x1 fa) (tV X.K T2 O2 x2 fb) σ H Q := by
  obtain ⟨Z, ρ, Fs, d, ρ', rel, hf, q⟩ := h
  unfold fOp at hf
  obtain ⟨⟨d1, ρ1⟩, h1, hf⟩ := Option.bind_eq_some_iff.mp hf
  obtain ⟨⟨d2, ρ2⟩, h2, hf⟩ := Option.bind_eq_some_iff.mp hf
  split at hf
  · rename_i hsf
    obtain ⟨d', h3, hf⟩ := Option.bind_eq_some_iff.mp hf
    cases hf
    refine ⟨Z, ρ, Fs, d1, ρ1, rel, h1, fun v1 H1 Z1 Fs1 F1 rel1 f1 w1 c1 => ?_⟩
    refine ⟨Z1, ρ1, Fs1, d2, _, rel1, h2, fun v2 H2 Z2 Fs2 F2 rel2 f2 w2 c2 => ?_⟩
    have w1' := w1.keep rel1 f2 hsf
    refine hs Z2 H2 d1 d2 v1 v2 F1 F2 _ Q w1'.r w2.r h3 fun v H' F k r nd nw => ?_
    have ff := (f1.trans f2)
    have f3 := ff.trans (Frm.pureT [] k)
    rw [List.append_nil] at f3
    exact q v H' Z2 Fs2 F (rel2.keep0 k) f3 (Val.new rel2 r nd nw) (Cf.new ff.keep nw)
  · cases hf
theorem pev_op {op : Operator} (ho : OpR X (binaryOp op) r) (hs : OpS X.K r g) (ha : PEV X T1 O1 x1 a fa) (hb : PEV X T2 O2 x2 b fb) : PEV X (T1 ++ T2) [] true (.BinOp a op b pos) (fOp O1 T2 g fa fb) :=
  PE.imp (pe_op ho ha hb) fun _ _ _ h => tv_op hs h
theorem pev_cmp {op : CmpOp} (ho : OpR X (compareOp op) r) (hs : OpS X.K r g) (ha : PEV X T1 O1 x1 a fa) (hb : PEV X T2 O2 x2 b fb) (hm : behindInMarks op b = false) : PEV X (T1 ++ T2) [] true (.Compare a [op] [b] pos) (fOp O1 T2 g fa fb) :=
  PE.imp (pe_cmpR ho ha hb hm) fun _ _ _ h => tv_op hs h
theorem pev_un {op : UnaryOp} {ru : V → Hp → VK → Prop} {gu : D → Option D} (ho : UnR X (unaryOp op) ru) (hs : UnS X.K ru gu) (ha : PEV X T O x a fa) : PEV X T [] true (.UnaryOp op a pos) (fUn gu fa) := by
  refine PE.imp (pe_un ho ha) fun σ H Q h => ?_
  obtain ⟨Z, ρ, Fs, d, ρ', rel, hf, q⟩ := h
  unfold fUn at hf
  obtain ⟨⟨d1, ρ1⟩, h1, hf⟩ := Option.bind_eq_some_iff.mp hf
  obtain ⟨d', h3, hf⟩ := Option.bind_eq_some_iff.mp hf
  cases hf
  refine ⟨Z, ρ, Fs, d1, _, rel, h1, fun v1 H1 Z1 Fs1 F1 rel1 f1 w1 c1 => ?_⟩
  refine hs Z1 H1 d1 v1 F1 _ Q w1.r h3 fun v H' F k r nd nw => ?_
  have f3 := f1.trans (Frm.pureT [] k)
  rw [List.append_nil] at f3
  exact q v H' Z1 Fs1 F (rel1.keep0 k) f3 (Val.new rel1 r nd nw) (Cf.new f1.keep nw)
/-- a part of a value -/
theorem tv_opW (hs : OpW X.K r g) {σ : L2.St} {H : Hp} {Q : VK} (h : tV X.K (T1 ++ T2) O1 false (fOp O1 T2 g fa fb) σ H Q) : tOp r (tV X.K T1 O1 x1 fa) (tV X.K T2 O2 x2 fb) σ H Q := by
  obtain ⟨Z, ρ, Fs, d, ρ', rel, hf, q⟩ := h
  unfold fOp at hf
  obtain ⟨⟨d1, ρ1⟩, h1, hf⟩ := Option.bind_eq_some_iff.mp hf
  obtain ⟨⟨d2, ρ2⟩, h2, hf⟩ := Option.bind_eq_some_iff.mp hf
  split at hf
  · rename_i hsf
    obtain ⟨d', h3, hf⟩ := Option.bind_eq_some_iff.mp hf
    cases hf
    refine ⟨Z, ρ, Fs, d1, ρ1, rel, h1, fun v1 H1 Z1 Fs1 F1 rel1 f1 w1 c1 => ?_⟩
    refine ⟨Z1, ρ1, Fs1, d2, _, rel1, h2, fun v2 H2 Z2 Fs2 F2 rel2 f2 w2 c2 => ?_⟩
    have w1' := w1.keep rel1 f2 hsf
    refine hs Z2 H2 d1 d2 v1 v2 F1 F2 _ Q w1'.r w2.r h3 fun v H' F k r sb => ?_
    have f3 := (f1.trans f2).trans (Frm.pureT [] k)
    rw [List.append_nil] at f3
    exact q v H' Z2 Fs2 F (rel2.keep0 k) f3 ⟨r, fun j a h1 h2 => w1'.ori j a (sb a h1) h2, fun h => (by cases h)⟩ fun h => (by cases h)
  · cases hf
theorem pev_ix {hr : IxR X r} (hs : OpW X.K r g) (ha : PEV X T1 O1 x1 a fa) (hb : PEV X T2 O2 x2 b fb) (hp : PlainIx b := by intro _ _; rfl) : PEV X (T1 ++ T2) O1 false (.Subscript a b pos) (fOp O1 T2 g fa fb) :=
  PE.imp (pe_ix hr ha hb hp) fun _ _ _ h => tv_opW hs h

/-! ### constants -/
theorem tv_c {K : PySem.W.Frag} {d : D} {v : V} (hr : ∀ Z H, R K Z H d v []) {σ : L2.St} {H : Hp} {Q : VK} (h : tV K [] [] true (fC d) σ H Q) : tC v σ H Q := by
  obtain ⟨Z, ρ, Fs, d', ρ', rel, hf, q⟩ := h
  cases hf
  exact q v H Z Fs [] rel (Frm.refl _) ⟨hr Z H, fun _ _ h => (by cases h), fun _ => ⟨List.nodup_nil, fun _ h => (by cases h)⟩⟩ Cf.nil
theorem pev_int {i : Int} {j} : PEV X [] [] true (.Constant (.int i) j pos) (fC (.int i)) := PE.imp pe_int fun _ _ _ h => tv_c (fun _ _ => .int i) h
theorem pev_bl {i : Bool} {j} : PEV X [] [] true (.Constant (.bool i) j pos) (fC (.bl i)) := PE.imp pe_bl fun _ _ _ h => tv_c (fun _ _ => .bl i) h
theorem pev_non {j} : PEV X [] [] true (.Constant .none j pos) (fC .non) := PE.imp pe_non fun _ _ _ h => tv_c (fun _ _ => .non) h
theorem pev_str {i : Str} {j} : PEV X [] [] true (.Constant (.str i) j pos) (fC (.str i)) := PE.imp pe_str fun _ _ _ h => tv_c (fun _ _ => .str i) h
/-- data that a module's name holds -/
def GD (K : PySem.W.Frag) (u : Value) (d : D) : Prop := ∃ v, RelV v u ∧ ∀ Z H, R K Z H d v []
theorem pev_glob {y : Str} {u : Value} {d : D} (hg : Gl X y) (hm : X.mg y = some u) (g : GD X.K u d) (hd : (y == ("__debug__" : Str)) = false := by decide) : PEV X [] [] true (.Name y pos) (fC d) := by
  obtain ⟨v, rv, hr⟩ := g
  exact PE.imp (pe_glob hg hm rv hd) fun _ _ _ h => tv_c hr h

/-! ### arguments, displays -/
theorem pav_nil : PAV X [] [] x [] fNil := by
  refine PA.imp pa_nil fun σ H Q h => ?_
  obtain ⟨Z, ρ, Fs, ds, ρ', rel, hf, q⟩ := h
  cases hf
  exact q [] H Z Fs [] rel (Frm.refl _) ⟨.nil, fun _ _ h => (by cases h), fun _ => ⟨List.nodup_nil, fun _ h => (by cases h)⟩⟩ Cf.nil
theorem tv_cons (hx : x = true → x1 = true ∧ O1 = [] ∧ x2 = true) {σ : L2.St} {H : Hp} {Q : List V → Hp → Prop} (h : tVL X.K (T1 ++ T2) (O1 ++ O2) x (fCons O1 T2 fa fr) σ H Q) : tCons (tV X.K T1 O1 x1 fa) (tVL X.K T2 O2 x2 fr) σ H Q := by
  obtain ⟨Z, ρ, Fs, ds, ρ', rel, hf, q⟩ := h
  unfold fCons at hf
  obtain ⟨⟨d1, ρ1⟩, h1, hf⟩ := Option.bind_eq_some_iff.mp hf
  obtain ⟨⟨d2, ρ2⟩, h2, hf⟩ := Option.bind_eq_some_iff.mp hf
  split at hf
  · rename_i hsf
    cases hf
    refine ⟨Z, ρ, Fs, d1, ρ1, rel, h1, fun v1 H1 Z1 Fs1 F1 rel1 f1 w1 c1 => ?_⟩
    refine ⟨Z1, ρ1, Fs1, d2, _, rel1, h2, fun vs H2 Z2 Fs2 F2 rel2 f2 w2 c2 => ?_⟩
    have w1' := w1.keep rel1 f2 hsf
    refine q (v1 :: vs) H2 Z2 Fs2 (F1 ++ F2) rel2 (f1.trans f2) ⟨.cons w1'.r w2.r, fun j a h1 h2 => ?_, fun h => ?_⟩ fun h a ha => ?_
    · rcases List.mem_append.mp h1 with h1 | h1
      · exact List.mem_append_left _ (w1'.ori j a h1 h2)
      · exact List.mem_append_right _ (w2.ori j a h1 h2)
    · obtain ⟨e1, e2, e3⟩ := hx h
      refine ⟨List.nodup_append.mpr ⟨(w1'.exc e1).1, (w2.exc e3).1, fun a h1 b h2 e => ?_⟩, fun a ha => ?_⟩
      · subst e
        rcases c2 e3 a h2 with ⟨j, hj, z⟩ | z
        · have := w1.ori j a h1 z
          rw [e2] at this
          cases this
        · exact w1.r.tr a h1 z
      · rcases List.mem_append.mp ha with ha | ha
        · exact (w1'.exc e1).2 a ha
        · exact (w2.exc e3).2 a ha
    · obtain ⟨e1, e2, e3⟩ := hx h
      rcases List.mem_append.mp ha with ha | ha
      · exact c1.early e1 a ha
      · exact c2.late f1 e3 a ha
  · cases hf
/-- .. seen -/
theorem pav_cons (ha : PEV X T1 O1 x1 e fa) (hr : PAV X T2 O2 x2 es fr) (hs : starEach (e :: es) X.env = (false, eval e X.env) :: starEach es X.env := by rfl) : PAV X (T1 ++ T2) (O1 ++ O2) false (e :: es) (fCons O1 T2 fa fr) :=
  PA.imp (pa_cons ha hr hs) fun _ _ _ h => tv_cons (fun h => (by cases h)) h
/-- .. held -/
theorem pav_consX (ha : PEV X T1 [] true e fa) (hr : PAV X T2 [] true es fr) (hs : starEach (e :: es) X.env = (false, eval e X.env) :: starEach es X.env := by rfl) : PAV X (T1 ++ T2) [] true (e :: es) (fCons [] T2 fa fr) :=
  PA.imp (pa_cons ha hr hs) fun σ H Q h => tv_cons (O1 := []) (O2 := []) (x := true) (fun _ => ⟨rfl, rfl, rfl⟩) h
def szOk (n : Nat) : Bool := decide (n ≤ 100000)
theorem sz_of {n : Nat} (h : szOk n = true) : n ≤ sizeLine := Nat.le_trans (of_decide_eq_true h) (by decide)
theorem sz_lt {n : Nat} (h : szOk n = true) : n < sizeLine := Nat.lt_of_le_of_lt (of_decide_eq_true h) (by decide)
def fTup (fr : M (List D)) : M D := fun ρ => (fr ρ).bind fun p => if szOk p.1.length = true then some (.tup p.1, p.2) else none
def fLst (fr : M (List D)) : M D := fun ρ => (fr ρ).bind fun p => if szOk p.1.length = true then some (.lst true p.1, p.2) else none
theorem pev_tup {k} (h : PAV X T [] true es fr) : PEV X T [] true (.Tuple es k pos) (fTup fr) := by
  refine PE.imp (pe_tup h) fun σ H Q h => ?_
  obtain ⟨Z, ρ, Fs, d, ρ', rel, hf, q⟩ := h
  unfold fTup at hf
  obtain ⟨⟨ds, ρ1⟩, h1, hf⟩ := Option.bind_eq_some_iff.mp hf
  split at hf
  · rename_i hz
    cases hf
    refine ⟨Z, ρ, Fs, ds, _, rel, h1, fun vs H1 Z1 Fs1 F1 rel1 f1 w1 c1 => ⟨by rw [← w1.r.length]; exact sz_of hz, fun p hp => ?_⟩⟩
    have k : Keep M0 H1 (upd H1 p (.tup vs)) := Keep.new hp
    have f3 := f1.trans (Frm.pureT [] k)
    rw [List.append_nil] at f3
    exact q (.ref p) _ Z1 Fs1 F1 (rel1.keep0 k) f3 ⟨.tup (SqT.of upd_same) (w1.r.keep k (fun _ h => h) (fun _ _ h => h) fun _ _ h => h), w1.ori, w1.exc⟩ c1
  · cases hf
theorem pev_lst (h : PAV X T [] true es fr) : PEV X T [] true (.List es pos) (fLst fr) := by
  refine PE.imp (pe_lst h) fun σ H Q h => ?_
  obtain ⟨Z, ρ, Fs, d, ρ', rel, hf, q⟩ := h
  unfold fLst at hf
  obtain ⟨⟨ds, ρ1⟩, h1, hf⟩ := Option.bind_eq_some_iff.mp hf
  split at hf
  · rename_i hz
    cases hf
    refine ⟨Z, ρ, Fs, ds, _, rel, h1, fun vs H1 Z1 Fs1 F1 rel1 f1 w1 c1 => ⟨by rw [← w1.r.length]; exact sz_of hz, fun p hp => ?_⟩⟩
    have k : Keep M0 H1 (upd H1 p (.lst vs)) := Keep.new hp
    have f3 := f1.trans (Frm.pureT [] k)
    rw [List.append_nil] at f3
    have np : p ∉ F1 := fun z => w1.r.tr p z hp
    refine q (.ref p) _ Z1 Fs1 (p :: F1) (rel1.keep0 k) f3 ⟨.own upd_same (w1.r.keep k (fun _ h => h) (fun _ _ h => h) fun _ _ h => h), fun j a h1 h2 => ?_, fun h => ⟨List.nodup_cons.mpr ⟨np, (w1.exc h).1⟩, fun a h1 => ?_⟩⟩ fun h a h1 => ?_
    · rcases List.mem_cons.mp h1 with e | h1
      · subst e; exact absurd hp (rel1.ft j _ h2)
      · exact w1.ori j a h1 h2
    · rcases List.mem_cons.mp h1 with e | h1
      · subst e; exact fun z => rel1.zt _ z hp
      · exact (w1.exc h).2 a h1
    · rcases List.mem_cons.mp h1 with e | h1
      · subst e; exact .inr (f1.keep.back hp)
      · exact c1 h a h1
  · cases hf
end
end Vl

namespace Vl
open PySem PySem.Spec PyProof.Rows L2

/-! ### tests -/
def fB (f : M D) : M Bool := fun ρ => (f ρ).bind fun p => match p.1 with
  | .bl b => some (b, p.2)
  | _ => none
def truth : D → Option Bool
  | .non => some false
  | .bl b => some b
  | .int i => some (i != 0)
  | .str s => if szOk s.length = true then some ((s.length : Int) != 0) else none
  | .tup l => some (!l.isEmpty)
  | .lst _ l => some (!l.isEmpty)
  | .dct o t l => if (o && !t) = true then some (!l.isEmpty) else none
  | .scr l => some (!l.isEmpty)
def fTr (f : M D) : M Bool := fun ρ => (f ρ).bind fun p => (truth p.1).bind fun b => some (b, p.2)
def fAnd (fa fb : M Bool) : M Bool := fun ρ => (fa ρ).bind fun p => if p.1 = true then fb p.2 else some (false, p.2)
def fOr (fa fb : M Bool) : M Bool := fun ρ => (fa ρ).bind fun p => if p.1 = true then some (true, p.2) else fb p.2
def fNot (fa : M Bool) : M Bool := fun ρ => (fa ρ).bind fun p => some (!p.1, p.2)
def fIf (ft : M Bool) (fa fb : M D) : M D := fun ρ => (ft ρ).bind fun p => if p.1 = true then fa p.2 else fb p.2
def fAndV (fa fb : M D) : M D := fun ρ => (fB fa ρ).bind fun p => if p.1 = true then fb p.2 else some (.bl false, p.2)
def fOrV (fa fb : M D) : M D := fun ρ => (fB fa ρ).bind fun p => if p.1 = true then some (.bl true, p.2) else fb p.2
def fNotV (fa : M D) : M D := fun ρ => (fB fa ρ).bind fun p => some (.bl (!p.1), p.2)
def fChain (O1 T2 O2 T3 : List Nat) (g g' : D → D → Option D) (fa fb fc : M D) : M D := fun ρ => (fa ρ).bind fun p => (fb p.2).bind fun q => if safe O1 T2 p.1 = true then (g p.1 q.1).bind fun z => match z with
    | .bl true => (fc q.2).bind fun w => if safe O2 T3 q.1 = true then (g' q.1 w.1).bind fun d => some (d, w.2) else none
    | .bl false => some (.bl false, q.2)
    | _ => none
  else none

section
variable {X : Cx} {T T1 T2 T3 O O1 O2 O3 : List Nat} {x x1 x2 x3 : Bool} {a b c e : Expr} {es rest : List Expr} {fa fb fc f : M D} {ft fu : M Bool} {fr : M (List D)} {pos : Pos} {r r' : R2} {g g' : D → D → Option D}
theorem R.bl_inv {K : PySem.W.Frag} {Z : Addr → Prop} {H : Hp} {b : Bool} {v : V} {F : List Addr} (r : R K Z H (.bl b) v F) : v = .bl b := by
  cases r
  rfl
theorem R.int_inv {K : PySem.W.Frag} {Z : Addr → Prop} {H : Hp} {b : Int} {v : V} {F : List Addr} (r : R K Z H (.int b) v F) : v = .int b := by
  cases r
  rfl
theorem R.str_inv {K : PySem.W.Frag} {Z : Addr → Prop} {H : Hp} {b : Str} {v : V} {F : List Addr} (r : R K Z H (.str b) v F) : v = .str b := by
  cases r
  rfl
theorem R.non_inv {K : PySem.W.Frag} {Z : Addr → Prop} {H : Hp} {v : V} {F : List Addr} (r : R K Z H .non v F) : v = .non := by
  cases r
  rfl
theorem tvt_of {t : TE} (ht : ∀ σ H Q, tV X.K T O x f σ H Q → t σ H Q) {σ : L2.St} {H : Hp} {Q : Bool → Hp → Prop} (h : tVT X.K T (fB f) σ H Q) : tTest t σ H Q := by
  obtain ⟨Z, ρ, Fs, b, ρ', rel, hf, q⟩ := h
  unfold fB at hf
  obtain ⟨⟨d, ρ1⟩, h1, hf⟩ := Option.bind_eq_some_iff.mp hf
  split at hf
  · rename_i b' e
    cases hf
    refine ht σ H _ ⟨Z, ρ, Fs, d, _, rel, h1, fun v H' Z' Fs' F r' f' w c => ?_⟩
    have e : d = .bl b := e
    subst e
    exact ⟨b, w.r.bl_inv, q H' Z' Fs' r' f'⟩
  · cases hf
theorem ptv_cmp {op : CmpOp} (ho : OpR X (compareOp op) r) (hs : OpS X.K r g) (ha : PEV X T1 O1 x1 a fa) (hb : PEV X T2 O2 x2 b fb) (hm : behindInMarks op b = false) : PTV X (T1 ++ T2) (.Compare a [op] [b] pos) (fB (fOp O1 T2 g fa fb)) :=
  PT.imp (pt_cmpR ho ha hb hm) fun σ H Q h => tvt_of (fun _ _ _ h => tv_op hs h) h
theorem ptv_val (h : PEV X T O x e f) (he : ∀ whole, isTrue e X.env whole = (do let v ← whole; standAt e.pos; holding [v] (truthy v)) := by intro _; rfl) : PTV X T e (fB f) :=
  PT.imp (pt_val h he) fun σ H Q h => tvt_of (t := tV X.K T O x f) (fun _ _ _ h => h) h
theorem R.truth {K : PySem.W.Frag} {Z : Addr → Prop} {H : Hp} {d : D} {v : V} {F : List Addr} {k : Bool} (r : R K Z H d v F) (h : truth d = some k) : TruV K v H k := by
  cases r with
  | non => cases h; rfl
  | bl b => cases h; rfl
  | int i => cases h; rfl
  | str s =>
    simp only [Vl.truth] at h
    split at h
    · rename_i hz
      cases h
      exact ⟨sz_of hz, rfl⟩
    · cases h
  | tup h1 h2 =>
    cases h
    refine .inr (.inl ⟨_, h1, ?_⟩)
    have e := h2.length
    cases h2 with
    | nil => rfl
    | cons _ _ => rfl
  | own h1 h2 =>
    cases h
    refine .inl ⟨_, SqL.of h1, ?_⟩
    cases h2 with
    | nil => rfl
    | cons _ _ => rfl
  | fzn h1 z h2 =>
    cases h
    refine .inl ⟨_, SqL.of h1, ?_⟩
    generalize hG : ([] : List Addr) = G at h2
    cases h2 with
    | nil => rfl
    | cons _ _ => rfl
  | knw h1 h2 =>
    cases h
    refine .inl ⟨_, h1.l, ?_⟩
    generalize hG : ([] : List Addr) = G at h2
    cases h2 with
    | nil => rfl
    | cons _ _ => rfl
  | dow h1 h2 =>
    rename_i a t vs kvs F
    simp only [Vl.truth] at h
    split at h
    · rename_i ht
      cases h
      cases t with
      | true => cases ht
      | false =>
        obtain ⟨o, e, ks, e1, e2, e3⟩ := h1
        subst e1
        refine .inr (.inr ⟨ks, e, ?_⟩)
        cases kvs with
        | nil =>
          cases ks with
          | nil => rfl
          | cons _ _ => cases e2
        | cons _ _ =>
          cases ks with
          | nil => cases e2
          | cons _ _ => rfl
    · cases h
  | dfz h1 z h2 => simp [Vl.truth] at h
  | dlk h1 h2 => simp [Vl.truth] at h
theorem ptv_tr (h : PEV X T O x e f) (he : ∀ whole, isTrue e X.env whole = (do let v ← whole; standAt e.pos; holding [v] (truthy v)) := by intro _; rfl) : PTV X T e (fTr f) := by
  refine PT.imp (pt_truth h he) fun σ H Q h => ?_
  obtain ⟨Z, ρ, Fs, b, ρ', rel, hf, q⟩ := h
  unfold fTr at hf
  obtain ⟨⟨d, ρ1⟩, h1, hf⟩ := Option.bind_eq_some_iff.mp hf
  obtain ⟨k, h2, hf⟩ := Option.bind_eq_some_iff.mp hf
  cases hf
  exact ⟨Z, ρ, Fs, d, _, rel, h1, fun v H' Z' Fs' F r' f' w c => ⟨_, w.r.truth h2, q H' Z' Fs' r' f'⟩⟩
abbrev PWV (X : Cx) (T : List Nat) (e : Expr) (f : M Bool) : Prop := PW X e (tVT X.K T f)
theorem pwv_and1 (ha : PTV X T a ft) : PWV X T (.BoolOp .And [a] pos) ft := pw_and1 ha
theorem pwv_or1 (ha : PTV X T a ft) : PWV X T (.BoolOp .Or [a] pos) ft := pw_or1 ha
theorem pwv_and (ha : PTV X T1 a ft) (hb : PWV X T2 (.BoolOp .And (b :: rest) pos) fu) : PWV X (T1 ++ T2) (.BoolOp .And (a :: b :: rest) pos) (fAnd ft fu) := by
  refine PW.imp (pw_and ha hb) fun σ H Q h => ?_
  obtain ⟨Z, ρ, Fs, k, ρ', rel, hf, q⟩ := h
  unfold fAnd at hf
  obtain ⟨⟨c, ρ1⟩, h1, hf⟩ := Option.bind_eq_some_iff.mp hf
  refine ⟨Z, ρ, Fs, c, ρ1, rel, h1, fun H1 Z1 Fs1 rel1 f1 => ?_⟩
  cases c with
  | true => exact ⟨Z1, ρ1, Fs1, k, ρ', rel1, hf, fun H2 Z2 Fs2 rel2 f2 => q H2 Z2 Fs2 rel2 (f1.trans f2)⟩
  | false =>
    cases hf
    exact q H1 Z1 Fs1 rel1 (f1.mono fun j hj => List.mem_append_left _ hj)
theorem pwv_or (ha : PTV X T1 a ft) (hb : PWV X T2 (.BoolOp .Or (b :: rest) pos) fu) : PWV X (T1 ++ T2) (.BoolOp .Or (a :: b :: rest) pos) (fOr ft fu) := by
  refine PW.imp (pw_or ha hb) fun σ H Q h => ?_
  obtain ⟨Z, ρ, Fs, k, ρ', rel, hf, q⟩ := h
  unfold fOr at hf
  obtain ⟨⟨c, ρ1⟩, h1, hf⟩ := Option.bind_eq_some_iff.mp hf
  refine ⟨Z, ρ, Fs, c, ρ1, rel, h1, fun H1 Z1 Fs1 rel1 f1 => ?_⟩
  cases c with
  | false => exact ⟨Z1, ρ1, Fs1, k, ρ', rel1, hf, fun H2 Z2 Fs2 rel2 f2 => q H2 Z2 Fs2 rel2 (f1.trans f2)⟩
  | true =>
    cases hf
    exact q H1 Z1 Fs1 rel1 (f1.mono fun j hj => List.mem_append_left _ hj)
theorem ptv_w (h : PWV X T e ft) : PTV X T e ft := h.pt
theorem ptv_not (ha : PTV X T a ft) : PTV X T (.UnaryOp .Not a pos) (fNot ft) := by
  refine PT.imp (pt_not ha) fun σ H Q h => ?_
  obtain ⟨Z, ρ, Fs, k, ρ', rel, hf, q⟩ := h
  unfold fNot at hf
  obtain ⟨⟨c, ρ1⟩, h1, hf⟩ := Option.bind_eq_some_iff.mp hf
  cases hf
  exact ⟨Z, ρ, Fs, c, _, rel, h1, fun H1 Z1 Fs1 rel1 f1 => q H1 Z1 Fs1 rel1 f1⟩
/-! ### bools as values -/
theorem pev_one {op} (h : PEV X T O x a f) : PEV X T O x (.BoolOp op [a] pos) f := pe_one h
theorem tv_b {σ : L2.St} {H : Hp} {Q : V → Hp → Prop} {Z : Addr → Prop} {ρ ρ1 : Env} {Fs : Ft} {c : Bool} (rel : Rel X.K Z ρ σ H Fs) (h1 : fB f ρ = some (c, ρ1))
    (q : ∀ H1 Z1 Fs1, Rel X.K Z1 ρ1 σ H1 Fs1 → Frm T Z ρ Fs H Z1 ρ1 Fs1 H1 → Q (.bl c) H1) : tV X.K T O x f σ H Q := by
  unfold fB at h1
  obtain ⟨⟨d, ρ2⟩, h0, h1⟩ := Option.bind_eq_some_iff.mp h1
  split at h1
  · rename_i b' e
    cases h1
    refine ⟨Z, ρ, Fs, d, _, rel, h0, fun v H' Z' Fs' F r' f' w cc => ?_⟩
    have e : d = .bl c := e
    subst e
    rw [w.r.bl_inv]
    exact q H' Z' Fs' r' f'
  · cases h1
theorem pev_and (ha : PEV X T1 O1 x1 a fa) (hb : PEV X T2 O2 x2 (.BoolOp .And (b :: rest) pos) fb) : PEV X (T1 ++ T2) O2 x2 (.BoolOp .And (a :: b :: rest) pos) (fAndV fa fb) := by
  refine PE.imp (pe_and ha hb) fun σ H Q h => ?_
  obtain ⟨Z, ρ, Fs, d, ρ', rel, hf, q⟩ := h
  unfold fAndV at hf
  obtain ⟨⟨c, ρ1⟩, h1, hf⟩ := Option.bind_eq_some_iff.mp hf
  refine tv_b rel h1 fun H1 Z1 Fs1 rel1 f1 => ⟨c, rfl, ?_⟩
  cases c with
  | true => exact ⟨Z1, ρ1, Fs1, d, ρ', rel1, hf, fun v H2 Z2 Fs2 F rel2 f2 w cc => q v H2 Z2 Fs2 F rel2 (f1.trans f2) w (cc.late f1)⟩
  | false =>
    cases hf
    exact q _ H1 Z1 Fs1 [] rel1 (f1.mono fun j hj => List.mem_append_left _ hj) ⟨.bl false, fun _ _ h => (by cases h), fun _ => ⟨List.nodup_nil, fun _ h => (by cases h)⟩⟩ Cf.nil
theorem pev_or (ha : PEV X T1 O1 x1 a fa) (hb : PEV X T2 O2 x2 (.BoolOp .Or (b :: rest) pos) fb) : PEV X (T1 ++ T2) O2 x2 (.BoolOp .Or (a :: b :: rest) pos) (fOrV fa fb) := by
  refine PE.imp (pe_or ha hb) fun σ H Q h => ?_
  obtain ⟨Z, ρ, Fs, d, ρ', rel, hf, q⟩ := h
  unfold fOrV at hf
  obtain ⟨⟨c, ρ1⟩, h1, hf⟩ := Option.bind_eq_some_iff.mp hf
  refine tv_b rel h1 fun H1 Z1 Fs1 rel1 f1 => ⟨c, rfl, ?_⟩
  cases c with
  | false => exact ⟨Z1, ρ1, Fs1, d, ρ', rel1, hf, fun v H2 Z2 Fs2 F rel2 f2 w cc => q v H2 Z2 Fs2 F rel2 (f1.trans f2) w (cc.late f1)⟩
  | true =>
    cases hf
    exact q _ H1 Z1 Fs1 [] rel1 (f1.mono fun j hj => List.mem_append_left _ hj) ⟨.bl true, fun _ _ h => (by cases h), fun _ => ⟨List.nodup_nil, fun _ h => (by cases h)⟩⟩ Cf.nil
theorem pev_not (ha : PEV X T O x a fa) : PEV X T [] true (.UnaryOp .Not a pos) (fNotV fa) := by
  refine PE.imp (pe_not ha) fun σ H Q h => ?_
  obtain ⟨Z, ρ, Fs, d, ρ', rel, hf, q⟩ := h
  unfold fNotV at hf
  obtain ⟨⟨c, ρ1⟩, h1, hf⟩ := Option.bind_eq_some_iff.mp hf
  cases hf
  exact tv_b rel h1 fun H1 Z1 Fs1 rel1 f1 => ⟨c, rfl, q _ H1 Z1 Fs1 [] rel1 f1 ⟨.bl _, fun _ _ h => (by cases h), fun _ => ⟨List.nodup_nil, fun _ h => (by cases h)⟩⟩ Cf.nil⟩
theorem pev_if (hc : PTV X T1 c ft) (ha : PEV X T2 O2 x2 a fa) (hb : PEV X T3 O3 x3 b fb) : PEV X (T1 ++ (T2 ++ T3)) (O2 ++ O3) (x2 && x3) (.IfExp c a b pos) (fIf ft fa fb) := by
  refine PE.imp (pe_ifExp hc ha hb) fun σ H Q h => ?_
  obtain ⟨Z, ρ, Fs, d, ρ', rel, hf, q⟩ := h
  unfold fIf at hf
  obtain ⟨⟨k, ρ1⟩, h1, hf⟩ := Option.bind_eq_some_iff.mp hf
  refine ⟨Z, ρ, Fs, k, ρ1, rel, h1, fun H1 Z1 Fs1 rel1 f1 => ?_⟩
  cases k with
  | true =>
    refine ⟨Z1, ρ1, Fs1, d, ρ', rel1, hf, fun v H2 Z2 Fs2 F rel2 f2 w cc => q v H2 Z2 Fs2 F rel2 (f1.trans (f2.mono fun j hj => List.mem_append_left _ hj)) ⟨w.r, fun j a h1 h2 => List.mem_append_left _ (w.ori j a h1 h2), fun h => w.exc ?_⟩ fun h => ?_⟩
    · rw [Bool.and_eq_true] at h; exact h.1
    · rw [Bool.and_eq_true] at h
      exact Cf.late f1 (cc.mono fun j hj => List.mem_append_left T3 hj) h.1
  | false =>
    refine ⟨Z1, ρ1, Fs1, d, ρ', rel1, hf, fun v H2 Z2 Fs2 F rel2 f2 w cc => q v H2 Z2 Fs2 F rel2 (f1.trans (f2.mono fun j hj => List.mem_append_right _ hj)) ⟨w.r, fun j a h1 h2 => List.mem_append_right _ (w.ori j a h1 h2), fun h => w.exc ?_⟩ fun h => ?_⟩
    · rw [Bool.and_eq_true] at h; exact h.2
    · rw [Bool.and_eq_true] at h
      exact Cf.late f1 (cc.mono fun j hj => List.mem_append_right T2 hj) h.2
/-! ### a < b < c -/
theorem tv_chain (hs : OpS X.K r g) (hs' : OpS X.K r' g') {σ : L2.St} {H : Hp} {Q : VK} (h : tV X.K (T1 ++ (T2 ++ T3)) [] true (fChain O1 T2 O2 T3 g g' fa fb fc) σ H Q) : tChain r r' (tV X.K T1 O1 x1 fa) (tV X.K T2 O2 x2 fb) (tV X.K T3 O3 x3 fc) σ H Q := by
  obtain ⟨Z, ρ, Fs, d, ρ', rel, hf, q⟩ := h
  unfold fChain at hf
  obtain ⟨⟨d1, ρ1⟩, h1, hf⟩ := Option.bind_eq_some_iff.mp hf
  obtain ⟨⟨d2, ρ2⟩, h2, hf⟩ := Option.bind_eq_some_iff.mp hf
  split at hf
  · rename_i hsf
    obtain ⟨z, h3, hf⟩ := Option.bind_eq_some_iff.mp hf
    refine ⟨Z, ρ, Fs, d1, ρ1, rel, h1, fun v1 H1 Z1 Fs1 F1 rel1 f1 w1 c1 => ?_⟩
    refine ⟨Z1, ρ1, Fs1, d2, _, rel1, h2, fun v2 H2 Z2 Fs2 F2 rel2 f2 w2 c2 => ?_⟩
    have w1' := w1.keep rel1 f2 hsf
    refine hs Z2 H2 d1 d2 v1 v2 F1 F2 _ _ w1'.r w2.r h3 fun v H3 F k rz nd nw => ?_
    have f12 := f1.trans f2
    split at hf
    · obtain ⟨⟨d3, ρ3⟩, h4, hf⟩ := Option.bind_eq_some_iff.mp hf
      split at hf
      · rename_i hsf2
        obtain ⟨d', h5, hf⟩ := Option.bind_eq_some_iff.mp hf
        cases hf
        refine ⟨true, rz.bl_inv, ?_⟩
        rw [if_pos rfl]
        have rel3 := rel2.keep0 k
        refine ⟨Z2, ρ2, Fs2, d3, _, rel3, h4, fun v3 H4 Z4 Fs4 F4 rel4 f4 w4 c4 => ?_⟩
        have w2' : Val X.K Z2 H3 Fs2 O2 x2 d2 v2 F2 := ⟨w2.r.keep k (fun _ h => h) (fun _ _ h => h) fun _ _ h => h, w2.ori, w2.exc⟩
        have w2'' := w2'.keep rel3 f4 hsf2
        refine hs' Z4 H4 d2 d3 v2 v3 F2 F4 _ Q w2''.r w4.r h5 fun v H' F k' r' nd nw => ?_
        have fa := (f12.trans ((Frm.pureT [] k).trans f4))
        have fb := fa.trans (Frm.pureT [] k')
        rw [List.nil_append, List.append_nil, List.append_assoc] at fb
        rw [List.nil_append, List.append_assoc] at fa
        exact q v H' Z4 Fs4 F (rel4.keep0 k') fb (Val.new rel4 r' nd nw) (Cf.new fa.keep nw)
      · cases hf
    · cases hf
      refine ⟨false, rz.bl_inv, ?_⟩
      rw [if_neg Bool.false_ne_true]
      have fb := f12.trans (Frm.pureT T3 k)
      rw [List.append_assoc] at fb
      exact q _ H3 Z2 Fs2 [] (rel2.keep0 k) fb ⟨.bl false, fun _ _ h => (by cases h), fun _ => ⟨List.nodup_nil, fun _ h => (by cases h)⟩⟩ Cf.nil
    · cases hf
  · cases hf
theorem pev_chain {op op' : CmpOp} (ho : OpR X (compareOp op) r) (hs : OpS X.K r g) (ho' : OpR X (compareOp op') r') (hs' : OpS X.K r' g') (ha : PEV X T1 O1 x1 a fa) (hb : PEV X T2 O2 x2 b fb) (hc : PEV X T3 O3 x3 c fc)
    (hm : lastMarks [op, op'] [b, c] = false := by with_unfolding_all rfl) : PEV X (T1 ++ (T2 ++ T3)) [] true (.Compare a [op, op'] [b, c] pos) (fChain O1 T2 O2 T3 g g' fa fb fc) :=
  PE.imp (pe_chain ho ho' ha hb hc hm) fun _ _ _ h => tv_chain hs hs' h
theorem ptv_chain {op op' : CmpOp} (ho : OpR X (compareOp op) r) (hs : OpS X.K r g) (ho' : OpR X (compareOp op') r') (hs' : OpS X.K r' g') (ha : PEV X T1 O1 x1 a fa) (hb : PEV X T2 O2 x2 b fb) (hc : PEV X T3 O3 x3 c fc)
    (hm : lastMarks [op, op'] [b, c] = false := by with_unfolding_all rfl) : PTV X (T1 ++ (T2 ++ T3)) (.Compare a [op, op'] [b, c] pos) (fB (fChain O1 T2 O2 T3 g g' fa fb fc)) :=
  PT.imp (pt_chain ho ho' ha hb hc hm) fun σ H Q h => tvt_of (fun _ _ _ h => tv_chain hs hs' h) h

/-! ### built-in calls -/
def fCl (g : List D → Option D) (fr : M (List D)) : M D := fun ρ => (fr ρ).bind fun p => (g p.1).bind fun d => some (d, p.2)
theorem tv_cl {rc : List V → Hp → VK → Prop} {gc : List D → Option D} (hs : ClS X.K rc gc) {σ : L2.St} {H : Hp} {Q : VK} (h : tV X.K T [] true (fCl gc fr) σ H Q) : tCB rc (tVL X.K T O x fr) σ H Q := by
  obtain ⟨Z, ρ, Fs, d, ρ', rel, hf, q⟩ := h
  unfold fCl at hf
  obtain ⟨⟨ds, ρ1⟩, h1, hf⟩ := Option.bind_eq_some_iff.mp hf
  obtain ⟨d', h3, hf⟩ := Option.bind_eq_some_iff.mp hf
  cases hf
  refine ⟨Z, ρ, Fs, ds, _, rel, h1, fun vs H1 Z1 Fs1 F1 rel1 f1 w1 c1 => ?_⟩
  refine hs Z1 H1 ds vs F1 _ Q w1.r h3 fun v H' F k r nd nw => ?_
  have f3 := f1.trans (Frm.pureT [] k)
  rw [List.append_nil] at f3
  exact q v H' Z1 Fs1 F (rel1.keep0 k) f3 (Val.new rel1 r nd nw) (Cf.new f1.keep nw)
theorem pev_callB {id : String} {y : Str} {p : Pos} {rc : List V → Hp → VK → Prop} {gc : List D → Option D} (hc : CallR X (.builtin id) rc) (hs : ClS X.K rc gc) (hg : Gl X y) (hm : X.mg y = none) (hv : bootBuiltins y = some (.builtin id)) (ha : PAV X T O x (e :: es) fr)
    (hn : y ≠ "__name__" := by decide) (hdb : (y == ("__debug__" : Str)) = false := by decide) (he : starEach (e :: es) X.env = (false, eval e X.env) :: starEach es X.env := by rfl) (hpl : (backTo pos (starEach es X.env)).any (·.1) = false := by rfl) :
    PEV X T [] true (.Call (.Name y p) (e :: es) [] pos) (fCl gc fr) := PE.imp (pe_callB hc hg hm hv ha hn hdb he hpl) fun _ _ _ h => tv_cl hs h
theorem pev_callTy {id : String} {y : Str} {p : Pos} {rc : List V → Hp → VK → Prop} {gc : List D → Option D} (hc : CallR X (.type id) rc) (hs : ClS X.K rc gc) (hg : Gl X y) (hm : X.mg y = none) (hv : bootBuiltins y = some (.type id)) (ha : PAV X T O x (e :: es) fr)
    (hn : y ≠ "__name__" := by decide) (hdb : (y == ("__debug__" : Str)) = false := by decide) (he : starEach (e :: es) X.env = (false, eval e X.env) :: starEach es X.env := by rfl) (hpl : (backTo pos (starEach es X.env)).any (·.1) = false := by rfl) :
    PEV X T [] true (.Call (.Name y p) (e :: es) [] pos) (fCl gc fr) := PE.imp (pe_callTy hc hg hm hv ha hn hdb he hpl) fun _ _ _ h => tv_cl hs h
end
end Vl

namespace Vl
open PySem PySem.Spec PyProof.Rows L2

inductive Res where
  | nx (ρ : Env) | rt (d : D) (ρ : Env) | bk (ρ : Env) | ct (ρ : Env)
abbrev MS := Env → Option Res
/-- the end of a statement: the slots W may hold other objects, the slots T may be touched -/
structure Fin (K : PySem.W.Frag) (W T : List Nat) (Z : Addr → Prop) (ρ : Env) (Fs : Ft) (σ : L2.St) (H : Hp) (Z' : Addr → Prop) (ρ' : Env) (Fs' : Ft) (σ' : L2.St) (H' : Hp) : Prop where
  rel : Rel K Z' ρ' σ' H' Fs'
  frm : Frm T Z ρ Fs H Z' ρ' Fs' H'
  sg : ∀ j, j ∉ W → σ'[j]? = σ[j]?
  sl : σ'.length = σ.length
def tVS (K : PySem.W.Frag) (W T : List Nat) (f : MS) : TS := fun D σ H => ∃ Z ρ Fs r, Rel K Z ρ σ H Fs ∧ f ρ = some r ∧
  (∀ ρ', r = .nx ρ' → ∀ σ' H' Z' Fs', Fin K W T Z ρ Fs σ H Z' ρ' Fs' σ' H' → D.nx σ' H') ∧
  (∀ ρ', r = .bk ρ' → ∀ σ' H' Z' Fs', Fin K W T Z ρ Fs σ H Z' ρ' Fs' σ' H' → D.bk σ' H') ∧
  (∀ ρ', r = .ct ρ' → ∀ σ' H' Z' Fs', Fin K W T Z ρ Fs σ H Z' ρ' Fs' σ' H' → D.ct σ' H') ∧
  (∀ d ρ', r = .rt d ρ' → ∀ σ' v H' Z' Fs' F, Fin K W T Z ρ Fs σ H Z' ρ' Fs' σ' H' → Val K Z' H' Fs' [] true d v F → Cf T Fs H true F → D.rt v H')
abbrev PSV (X : Cx) (W T : List Nat) (st : Stmt) (f : MS) : Prop := PS X st (tVS X.K W T f)
abbrev PSsV (X : Cx) (W T : List Nat) (sts : List Stmt) (f : MS) : Prop := PSs X sts (tVS X.K W T f)

section
variable {K : PySem.W.Frag} {Z Z' Z1 Z2 : Addr → Prop} {ρ ρ' ρ1 ρ2 : Env} {Fs Fs' Fs1 Fs2 : Ft} {H H' H1 H2 : Hp} {T T1 T2 O O1 O2 W W1 W2 : List Nat} {x : Bool} {d : D} {v : V} {F : List Addr} {σ σ' σ1 σ2 : L2.St}
theorem Fin.trans (f1 : Fin K W1 T1 Z ρ Fs σ H Z1 ρ1 Fs1 σ1 H1) (f2 : Fin K W2 T2 Z1 ρ1 Fs1 σ1 H1 Z2 ρ2 Fs2 σ2 H2) : Fin K (W1 ++ W2) (T1 ++ T2) Z ρ Fs σ H Z2 ρ2 Fs2 σ2 H2 :=
  ⟨f2.rel, f1.frm.trans f2.frm, fun j hj => (f2.sg j fun z => hj (List.mem_append_right _ z)).trans (f1.sg j fun z => hj (List.mem_append_left _ z)), f2.sl.trans f1.sl⟩
theorem Fin.mono (f : Fin K W T Z ρ Fs σ H Z' ρ' Fs' σ' H') (hw : ∀ i ∈ W, i ∈ W1) (ht : ∀ i ∈ T, i ∈ T1) : Fin K W1 T1 Z ρ Fs σ H Z' ρ' Fs' σ' H' :=
  ⟨f.rel, f.frm.mono ht, fun j hj => f.sg j fun z => hj (hw j z), f.sl⟩
theorem Fin.left (W2 T2 : List Nat) (f : Fin K W1 T1 Z ρ Fs σ H Z' ρ' Fs' σ' H') : Fin K (W1 ++ W2) (T1 ++ T2) Z ρ Fs σ H Z' ρ' Fs' σ' H' := f.mono (fun j hj => List.mem_append_left _ hj) fun j hj => List.mem_append_left _ hj
theorem Fin.of (rel : Rel K Z' ρ' σ H' Fs') (f : Frm T Z ρ Fs H Z' ρ' Fs' H') : Fin K [] T Z ρ Fs σ H Z' ρ' Fs' σ H' := ⟨rel, f, fun _ _ => rfl, rfl⟩
theorem Fin.refl (W T : List Nat) (rel : Rel K Z ρ σ H Fs) : Fin K W T Z ρ Fs σ H Z ρ Fs σ H := ⟨rel, Frm.refl T, fun _ _ => rfl, rfl⟩
/-- a value put into a slot -/
theorem Rel.put {i : Nat} (rel : Rel K Z ρ σ H Fs) (w : Val K Z H Fs [] true d v F) : Rel K Z (ρ.set i (some d)) (σ.set i (some v)) H (fun j => if j = i then F else Fs j) := by
  refine ⟨fun j e he => ?_, fun j => ?_, fun j k a h1 h2 => ?_, fun j a h => ?_, rel.zt, fun j a h => ?_, by rw [List.length_set, List.length_set]; exact rel.len⟩
  · by_cases q : j = i
    · subst q
      by_cases hl : j < ρ.length
      · rw [List.getElem?_set_self hl] at he
        cases he
        simp only [if_pos rfl]
        exact ⟨v, List.getElem?_set_self (by rw [← rel.len]; exact hl), w.r⟩
      · rw [List.getElem?_eq_none (by simpa using hl)] at he; cases he
    · rw [List.getElem?_set_ne (Ne.symm q)] at he
      simp only [if_neg q]
      rw [List.getElem?_set_ne (Ne.symm q)]
      exact rel.at_ j e he
  · by_cases q : j = i
    · simp only [if_pos q]; exact (w.exc rfl).1
    · simp only [if_neg q]; exact rel.nd j
  · by_cases q : j = i
    · by_cases p : k = i
      · rw [q, p]
      · simp only [if_pos q] at h1
        simp only [if_neg p] at h2
        exact absurd (w.ori k a h1 h2) (by simp)
    · by_cases p : k = i
      · simp only [if_neg q] at h1
        simp only [if_pos p] at h2
        exact absurd (w.ori j a h2 h1) (by simp)
      · simp only [if_neg q] at h1
        simp only [if_neg p] at h2
        exact rel.dj j k a h1 h2
  · by_cases q : j = i
    · simp only [if_pos q] at h; exact (w.exc rfl).2 a h
    · simp only [if_neg q] at h; exact rel.nz j a h
  · by_cases q : j = i
    · simp only [if_pos q] at h; exact w.r.tr a h
    · simp only [if_neg q] at h; exact rel.ft j a h
theorem Frm.put {i : Nat} (f : Frm T Z ρ Fs H Z' ρ' Fs' H') (c : Cf T Fs H true F) : Frm (i :: T) Z ρ Fs H Z' (ρ'.set i (some d)) (fun j => if j = i then F else Fs' j) H' := by
  have f' := f.mono (T1 := i :: T) fun j hj => List.mem_cons_of_mem _ hj
  refine ⟨fun j hj => ?_, f'.keep, fun j hj a ha => ?_, f'.c3, f'.zz, by rw [List.length_set]; exact f.len⟩
  · have q : j ≠ i := fun e => hj (by rw [e]; exact List.mem_cons_self)
    have h := f'.sub j hj
    exact ⟨(if_neg q).trans h.1, (List.getElem?_set_ne (Ne.symm q)).trans h.2⟩
  · by_cases q : j = i
    · simp only [if_pos q] at ha
      exact (c rfl a ha).imp (fun ⟨k, hk, z⟩ => ⟨k, List.mem_cons_of_mem _ hk, z⟩) id
    · simp only [if_neg q] at ha
      exact f'.c1 j hj a ha
theorem Fin.put {i : Nat} (rel : Rel K Z' ρ' σ H' Fs') (f : Frm T Z ρ Fs H Z' ρ' Fs' H') (w : Val K Z' H' Fs' [] true d v F) (c : Cf T Fs H true F) :
    Fin K [i] (i :: T) Z ρ Fs σ H Z' (ρ'.set i (some d)) (fun j => if j = i then F else Fs' j) (σ.set i (some v)) H' :=
  ⟨rel.put w, f.put c, fun j hj => List.getElem?_set_ne (fun e => hj (by rw [e]; exact List.mem_cons_self)), by rw [List.length_set]⟩
end

/-! ### statements -/
def sSet (i : Nat) (f : M D) : MS := fun ρ => (f ρ).bind fun p => some (.nx (p.2.set i (some p.1)))
def sDrop (f : M D) : MS := fun ρ => (f ρ).bind fun p => some (.nx p.2)
def sRet (f : M D) : MS := fun ρ => (f ρ).bind fun p => some (.rt p.1 p.2)
def sRetN : MS := fun ρ => some (.rt .non ρ)
def sIf (c : M Bool) (a b : MS) : MS := fun ρ => (c ρ).bind fun p => if p.1 = true then a p.2 else b p.2
def sNil : MS := fun ρ => some (.nx ρ)
def sSeq (a b : MS) : MS := fun ρ => (a ρ).bind fun r => match r with
  | .nx ρ' => b ρ'
  | r => some r
def sBk : MS := fun ρ => some (.bk ρ)
def sCt : MS := fun ρ => some (.ct ρ)
def sAug (i : Nat) (T : List Nat) (g : D → D → Option D) (f : M D) : MS := fun ρ => (Env.at ρ i).bind fun o => (f ρ).bind fun p => if safe [i] T o = true then (g o p.1).bind fun d => some (.nx (p.2.set i (some d))) else none

section
variable {X : Cx} {T T1 T2 T3 O O1 O2 O3 W W1 W2 : List Nat} {x x1 x2 x3 : Bool} {e c : Expr} {f : M D} {fc : M Bool} {s1 s2 : MS} {st : Stmt} {sts a b : List Stmt} {pos : Pos}
theorem psv_set (i : Nat) {y : Str} {pos' : Pos} (hN : X.N.Nodup) (he : PEV X T [] true e f) (hi : X.N[i]? = some y := by rfl) (hx : Loc X.env.scope y := by first | exact Or.inl rfl | exact Or.inr rfl)
    (hs : swapsWith e (some (.Name y pos')) pos.line X.env = pure false := by rfl) (hf : X.fn y = true ∨ X.env.scope.names.lookup y = some .local := by first | exact .inl rfl | exact .inr rfl) :
    PSV X [i] (i :: T) (.Assign [.Name y pos'] e pos) (sSet i f) := by
  refine PS.imp (ps_set hN hi hx he hs hf) fun D σ H h => ?_
  obtain ⟨Z, ρ, Fs, r, rel, hf, h1, h2, h3, h4⟩ := h
  unfold sSet at hf
  obtain ⟨⟨d, ρ1⟩, hp, hf⟩ := Option.bind_eq_some_iff.mp hf
  cases hf
  exact ⟨Z, ρ, Fs, d, ρ1, rel, hp, fun v H' Z' Fs' F rel' f' w c => h1 _ rfl _ _ _ _ (Fin.put rel' f' w c)⟩
theorem psv_expr (he : PEV X T O x e f) (hs : swapsWith e none pos.line X.env = pure false := by rfl) : PSV X [] T (.Expr e pos) (sDrop f) := by
  refine PS.imp (ps_expr he hs) fun D σ H h => ?_
  obtain ⟨Z, ρ, Fs, r, rel, hf, h1, h2, h3, h4⟩ := h
  unfold sDrop at hf
  obtain ⟨⟨d, ρ1⟩, hp, hf⟩ := Option.bind_eq_some_iff.mp hf
  cases hf
  exact ⟨Z, ρ, Fs, d, ρ1, rel, hp, fun v H' Z' Fs' F rel' f' w c => h1 _ rfl _ _ _ _ (Fin.of rel' f')⟩
theorem psv_doc {z : Str} {j pos'} : PSV X [] [] (.Expr (.Constant (.str z) j pos) pos') sNil := by
  refine PS.imp ps_doc fun D σ H h => ?_
  obtain ⟨Z, ρ, Fs, r, rel, hf, h1, h2, h3, h4⟩ := h
  cases hf
  exact h1 _ rfl _ _ _ _ (Fin.refl _ _ rel)
theorem psv_pass : PSV X [] [] (.Pass pos) sNil := by
  refine PS.imp ps_pass fun D σ H h => ?_
  obtain ⟨Z, ρ, Fs, r, rel, hf, h1, h2, h3, h4⟩ := h
  cases hf
  exact h1 _ rfl _ _ _ _ (Fin.refl _ _ rel)
theorem psv_break : PSV X [] [] (.Break pos) sBk := by
  refine PS.imp ps_break fun D σ H h => ?_
  obtain ⟨Z, ρ, Fs, r, rel, hf, h1, h2, h3, h4⟩ := h
  cases hf
  exact h2 _ rfl _ _ _ _ (Fin.refl _ _ rel)
theorem psv_continue : PSV X [] [] (.Continue pos) sCt := by
  refine PS.imp ps_continue fun D σ H h => ?_
  obtain ⟨Z, ρ, Fs, r, rel, hf, h1, h2, h3, h4⟩ := h
  cases hf
  exact h3 _ rfl _ _ _ _ (Fin.refl _ _ rel)
/-- a statement that no run comes to -/
theorem psv_never : PSV X [] [] st (fun _ => none) := by
  refine PS.imp ps_never fun D σ H h => ?_
  obtain ⟨Z, ρ, Fs, r, rel, hf, h1, h2, h3, h4⟩ := h
  cases hf
theorem psv_ret (he : PEV X T [] true e f) : PSV X [] T (.Return (some e) pos) (sRet f) := by
  refine PS.imp (ps_ret he) fun D σ H h => ?_
  obtain ⟨Z, ρ, Fs, r, rel, hf, h1, h2, h3, h4⟩ := h
  unfold sRet at hf
  obtain ⟨⟨d, ρ1⟩, hp, hf⟩ := Option.bind_eq_some_iff.mp hf
  cases hf
  exact ⟨Z, ρ, Fs, d, ρ1, rel, hp, fun v H' Z' Fs' F rel' f' w c => h4 _ _ rfl _ _ _ _ _ _ (Fin.of rel' f') w c⟩
theorem psv_retN : PSV X [] [] (.Return none pos) sRetN := by
  refine PS.imp ps_retN fun D σ H h => ?_
  obtain ⟨Z, ρ, Fs, r, rel, hf, h1, h2, h3, h4⟩ := h
  cases hf
  exact h4 _ _ rfl _ _ _ _ _ [] (Fin.refl _ _ rel) ⟨.non, fun _ _ h => (by cases h), fun _ => ⟨List.nodup_nil, fun _ h => (by cases h)⟩⟩ Cf.nil
theorem pssv_nil : PSsV X [] [] [] sNil := by
  refine PSs.imp pss_nil fun D σ H h => ?_
  obtain ⟨Z, ρ, Fs, r, rel, hf, h1, h2, h3, h4⟩ := h
  cases hf
  exact h1 _ rfl _ _ _ _ (Fin.refl _ _ rel)
theorem pssv_one (h : PSV X W T st s1) : PSsV X W T [st] s1 := pss_one h
theorem pssv_cons (ha : PSV X W1 T1 st s1) (hb : PSsV X W2 T2 sts s2) : PSsV X (W1 ++ W2) (T1 ++ T2) (st :: sts) (sSeq s1 s2) := by
  refine PSs.imp (pss_cons ha hb) fun D σ H h => ?_
  obtain ⟨Z, ρ, Fs, r, rel, hf, h1, h2, h3, h4⟩ := h
  unfold sSeq at hf
  obtain ⟨r1, hp, hf⟩ := Option.bind_eq_some_iff.mp hf
  refine ⟨Z, ρ, Fs, r1, rel, hp, fun ρ' e σ' H' Z' Fs' fn => ?_, fun ρ' e σ' H' Z' Fs' fn => ?_, fun ρ' e σ' H' Z' Fs' fn => ?_, fun d ρ' e σ' v H' Z' Fs' F fn w c => ?_⟩
  · subst e
    refine ⟨Z', ρ', Fs', r, fn.rel, hf, fun ρ2 e σ2 H2 Z2 Fs2 fn2 => h1 _ e _ _ _ _ (fn.trans fn2), fun ρ2 e σ2 H2 Z2 Fs2 fn2 => h2 _ e _ _ _ _ (fn.trans fn2), fun ρ2 e σ2 H2 Z2 Fs2 fn2 => h3 _ e _ _ _ _ (fn.trans fn2),
      fun d ρ2 e σ2 v H2 Z2 Fs2 F fn2 w c => h4 _ _ e _ _ _ _ _ _ (fn.trans fn2) w (c.late fn.frm)⟩
  · subst e
    cases hf
    exact h2 _ rfl _ _ _ _ (fn.left _ _)
  · subst e
    cases hf
    exact h3 _ rfl _ _ _ _ (fn.left _ _)
  · subst e
    cases hf
    exact h4 _ _ rfl _ _ _ _ _ _ (fn.left _ _) w c.early
theorem psv_if (hc : PTV X T e fc) (ha : PSsV X W1 T1 a s1) (hb : PSsV X W2 T2 b s2) : PSV X (W1 ++ W2) (T ++ (T1 ++ T2)) (.If e a b pos) (sIf fc s1 s2) := by
  refine PS.imp (ps_if hc ha hb) fun D σ H h => ?_
  obtain ⟨Z, ρ, Fs, r, rel, hf, h1, h2, h3, h4⟩ := h
  unfold sIf at hf
  obtain ⟨⟨k, ρ1⟩, hp, hf⟩ := Option.bind_eq_some_iff.mp hf
  refine ⟨Z, ρ, Fs, k, ρ1, rel, hp, fun H1 Z1 Fs1 rel1 f1 => ?_⟩
  have fn1 := Fin.of rel1 f1
  cases k with
  | true =>
    have up : ∀ {Z2 ρ2 Fs2 σ2 H2}, Fin X.K W1 T1 Z1 ρ1 Fs1 σ H1 Z2 ρ2 Fs2 σ2 H2 → Fin X.K (W1 ++ W2) (T ++ (T1 ++ T2)) Z ρ Fs σ H Z2 ρ2 Fs2 σ2 H2 := fun fn => fn1.trans (fn.left W2 T2)
    exact ⟨Z1, ρ1, Fs1, r, rel1, hf, fun ρ2 e σ2 H2 Z2 Fs2 fn2 => h1 _ e _ _ _ _ (up fn2), fun ρ2 e σ2 H2 Z2 Fs2 fn2 => h2 _ e _ _ _ _ (up fn2), fun ρ2 e σ2 H2 Z2 Fs2 fn2 => h3 _ e _ _ _ _ (up fn2),
      fun d ρ2 e σ2 v H2 Z2 Fs2 F fn2 w c => h4 _ _ e _ _ _ _ _ _ (up fn2) w (Cf.late f1 c.early)⟩
  | false =>
    have up : ∀ {Z2 ρ2 Fs2 σ2 H2}, Fin X.K W2 T2 Z1 ρ1 Fs1 σ H1 Z2 ρ2 Fs2 σ2 H2 → Fin X.K (W1 ++ W2) (T ++ (T1 ++ T2)) Z ρ Fs σ H Z2 ρ2 Fs2 σ2 H2 := fun fn => fn1.trans (fn.mono (fun j hj => List.mem_append_right _ hj) fun j hj => List.mem_append_right _ hj)
    exact ⟨Z1, ρ1, Fs1, r, rel1, hf, fun ρ2 e σ2 H2 Z2 Fs2 fn2 => h1 _ e _ _ _ _ (up fn2), fun ρ2 e σ2 H2 Z2 Fs2 fn2 => h2 _ e _ _ _ _ (up fn2), fun ρ2 e σ2 H2 Z2 Fs2 fn2 => h3 _ e _ _ _ _ (up fn2),
      fun d ρ2 e σ2 v H2 Z2 Fs2 F fn2 w c => h4 _ _ e _ _ _ _ _ _ (up fn2) w (Cf.late f1 (c.mono fun j hj => List.mem_append_right _ hj))⟩
theorem psv_aug (i : Nat) {y : Str} {pos' : Pos} {op : Operator} {ti : TIp} {g : D → D → Option D} (hN : X.N.Nodup) (ho : PIp X op ti) (hs : OpS X.K ti g) (he : PEV X T O x e f) (hi : X.N[i]? = some y := by rfl) (hx : Loc X.env.scope y := by first | exact Or.inl rfl | exact Or.inr rfl)
    (hf : X.fn y = true ∨ X.env.scope.names.lookup y = some .local := by first | exact .inl rfl | exact .inr rfl) :
    PSV X [i] (i :: T) (.AugAssign (.Name y pos') op e pos) (sAug i T g f) := by
  refine PS.imp (ps_aug hN hi hx he ho hf) fun D σ H h => ?_
  obtain ⟨Z, ρ, Fs, r, rel, hf, h1, h2, h3, h4⟩ := h
  unfold sAug at hf
  obtain ⟨o, h0, hf⟩ := Option.bind_eq_some_iff.mp hf
  obtain ⟨⟨d, ρ1⟩, hp, hf⟩ := Option.bind_eq_some_iff.mp hf
  split at hf
  · rename_i hsf
    obtain ⟨d', h5, hf⟩ := Option.bind_eq_some_iff.mp hf
    cases hf
    obtain ⟨v0, hv0, r0⟩ := rel.at_ i o (Env.at_some h0)
    refine ⟨v0, hv0, Z, ρ, Fs, d, ρ1, rel, hp, fun v H' Z' Fs' F rel' f' w c => ?_⟩
    have w0 : Val X.K Z H Fs [i] false o v0 (Fs i) := ⟨r0, fun j a h1 h2 => by rw [rel.dj i j a h1 h2]; exact List.mem_cons_self, fun h => (by cases h)⟩
    have w0' := w0.keep rel f' hsf
    refine hs Z' H' o d v0 v (Fs i) F _ _ w0'.r w.r h5 fun z H2 F2 k r2 nd nw => ?_
    have f3 := f'.trans (Frm.pureT [] k)
    rw [List.append_nil] at f3
    exact h1 _ rfl _ _ _ _ (Fin.put (rel'.keep0 k) f3 (Val.new rel' r2 nd nw) (Cf.new f'.keep nw))
  · cases hf
end
end Vl

namespace Vl
open PySem PySem.Spec PyProof.Rows L2

/-! ### what is walked -/
/-- while A and the known set are kept, the walk stands and its items are these data -/
def Stay (K : PySem.W.Frag) (Z' : Addr → Prop) (H' : Hp) (A : List Addr) (G : Hp → Prop) (Y : Nat → Hp → V → Hp → Prop) (items : List D) : Prop :=
  ∀ (M : Addr → Prop) (Z2 : Addr → Prop) (H2 : Hp), Keep M H' H2 → (∀ a ∈ A, ¬ M a) → (∀ a, Z' a → ¬ M a) → (∀ a, Z' a → Z2 a) → G H2 ∧ ∀ i x h d, Y i H2 x h → items[i]? = some d → Keep M0 H2 h ∧ R K Z2 h d x []
def tVI (K : PySem.W.Frag) (T O : List Nat) (f : M (List D)) : TI := fun σ H Rk => ∃ Z ρ Fs items ρ', Rel K Z ρ σ H Fs ∧ f ρ = some (items, ρ') ∧
  ∀ J H' Z' Fs' A G Y, Rel K Z' ρ' σ H' Fs' → Frm T Z ρ Fs H Z' ρ' Fs' H' → Walk J items.length G Y → (∀ j a, a ∈ A → a ∈ Fs' j → j ∈ O) → Stay K Z' H' A G Y items → Rk J H'
abbrev PIV (X : Cx) (T O : List Nat) (tg e : Expr) (f : M (List D)) : Prop := PI X tg e (tVI X.K T O f)
theorem PI.imp {X : Cx} {tg e : Expr} {t t' : TI} (h : PI X tg e t) (i : ∀ σ H Q, t' σ H Q → t σ H Q) : PI X tg e t' := ⟨fun pins s σ H Q I q => h.run pins s σ H Q I (i σ H Q q)⟩

/-! ### targets of shared data -/
def tVG (K : PySem.W.Frag) (W T : List Nat) (g : D → Env → Option Env) : TG := fun v σ H Q => ∃ Z ρ Fs d ρ', Rel K Z ρ σ H Fs ∧ R K Z H d v [] ∧ g d ρ = some ρ' ∧
  ∀ σ' H' Z' Fs', Fin K W T Z ρ Fs σ H Z' ρ' Fs' σ' H' → Q σ' H'
def tVGs (K : PySem.W.Frag) (W T : List Nat) (g : List D → Env → Option Env) : TGs := fun vs σ H Q => ∃ Z ρ Fs ds ρ', Rel K Z ρ σ H Fs ∧ Rs K Z H ds vs [] ∧ g ds ρ = some ρ' ∧
  ∀ σ' H' Z' Fs', Fin K W T Z ρ Fs σ H Z' ρ' Fs' σ' H' → Q σ' H'
abbrev PGV (X : Cx) (W T : List Nat) (tg : Expr) (g : D → Env → Option Env) : Prop := PG X tg (tVG X.K W T g)
abbrev PGsV (X : Cx) (W T : List Nat) (tgs : List Expr) (g : List D → Env → Option Env) : Prop := PGs X tgs (tVGs X.K W T g)
theorem PG.imp {X : Cx} {tg : Expr} {t t' : TG} (h : PG X tg t) (i : ∀ v σ H Q, t' v σ H Q → t v σ H Q) : PG X tg t' := ⟨fun pins s σ H v u Q I r q => h.run pins s σ H v u Q I r (i v σ H Q q)⟩
theorem PGs.imp {X : Cx} {tg : List Expr} {t t' : TGs} (h : PGs X tg t) (i : ∀ v σ H Q, t' v σ H Q → t v σ H Q) : PGs X tg t' := ⟨fun pins s σ H v u Q I r q => h.run pins s σ H v u Q I r (i v σ H Q q)⟩
def gNm (i : Nat) : D → Env → Option Env := fun d ρ => some (ρ.set i (some d))
def gsNil : List D → Env → Option Env := fun ds ρ => match ds with
  | [] => some ρ
  | _ => none
def gsCons (g : D → Env → Option Env) (gs : List D → Env → Option Env) : List D → Env → Option Env := fun ds ρ => match ds with
  | d :: r => (g d ρ).bind fun ρ' => gs r ρ'
  | [] => none
def gTp (n : Nat) (gs : List D → Env → Option Env) : D → Env → Option Env := fun d ρ => match d with
  | .tup l => if l.length = n then gs l ρ else none
  | _ => none

section
variable {X : Cx} {T T1 T2 T3 O O1 O2 O3 W W1 W2 Wg Tg Wb Tb : List Nat} {x x1 x2 x3 : Bool} {e c tg iter : Expr} {f : M D} {fi fr : M (List D)} {fc : M Bool} {s1 s2 sb : MS} {st : Stmt} {sts a b body es : List Expr} {bd : List Stmt} {pos : Pos} {g : D → Env → Option Env} {gs : List D → Env → Option Env}
theorem Rs.ofR {K : PySem.W.Frag} {Z : Addr → Prop} {H : Hp} {d : D} {v : V} (r : R K Z H d v []) (fs : Ft) : Val K Z H fs [] true d v [] := ⟨r, fun _ _ h => (by cases h), fun _ => ⟨List.nodup_nil, fun _ h => (by cases h)⟩⟩
theorem pgv_name (i : Nat) {y : Str} (hN : X.N.Nodup) (hi : X.N[i]? = some y := by rfl) (hx : Loc X.env.scope y := by first | exact Or.inl rfl | exact Or.inr rfl) (hf : X.fn y = true ∨ X.env.scope.names.lookup y = some .local := by first | exact .inl rfl | exact .inr rfl) :
    PGV X [i] [i] (.Name y pos) (gNm i) := by
  refine PG.imp (pg_name hN hi hx hf) fun v σ H Q h => ?_
  obtain ⟨Z, ρ, Fs, d, ρ', rel, r, hg, q⟩ := h
  cases hg
  exact q _ _ _ _ (Fin.put rel (Frm.refl []) (Rs.ofR r Fs) Cf.nil)
theorem pgsv_nil : PGsV X [] [] [] gsNil := by
  refine PGs.imp pgs_nil fun v σ H Q h => ?_
  obtain ⟨Z, ρ, Fs, ds, ρ', rel, r, hg, q⟩ := h
  cases ds with
  | nil =>
    cases hg
    have e := r.length
    exact ⟨List.eq_nil_of_length_eq_zero e.symm, q _ _ _ _ (Fin.refl _ _ rel)⟩
  | cons _ _ => cases hg
theorem pgsv_cons {es : List Expr} (h1 : PGV X W1 T1 e g) (h2 : PGsV X W2 T2 es gs) (hs : (assignEach (e :: es) X.env).map (·.2) = assign e X.env :: (assignEach es X.env).map (·.2) := by rfl) : PGsV X (W1 ++ W2) (T1 ++ T2) (e :: es) (gsCons g gs) := by
  refine PGs.imp (pgs_cons h1 h2 hs) fun v σ H Q h => ?_
  obtain ⟨Z, ρ, Fs, ds, ρ', rel, r, hg, q⟩ := h
  generalize hF : ([] : List Addr) = F at r
  cases r with
  | nil => cases hg
  | cons r rs =>
    obtain ⟨e1, e2⟩ := app_eq_nil hF.symm
    subst e1
    subst e2
    obtain ⟨ρ1, h3, h4⟩ := Option.bind_eq_some_iff.mp hg
    refine ⟨_, _, rfl, Z, ρ, Fs, _, ρ1, rel, r, h3, fun σ1 H1 Z1 Fs1 fn1 => ?_⟩
    exact ⟨Z1, ρ1, Fs1, _, ρ', fn1.rel, rs.keep fn1.frm.keep fn1.frm.zz (fun a z ⟨j, hj, ha⟩ => rel.nz j a ha z) (fun a h => (by cases h)), h4, fun σ2 H2 Z2 Fs2 fn2 => q _ _ _ _ (fn1.trans fn2)⟩
theorem R.tup_inv {K : PySem.W.Frag} {Z : Addr → Prop} {H : Hp} {ds : List D} {v : V} {F : List Addr} (r : R K Z H (.tup ds) v F) : ∃ a vs, v = .ref a ∧ SqT K H a vs ∧ Rs K Z H ds vs F := by
  cases r with
  | tup h rs => exact ⟨_, _, rfl, h, rs⟩
theorem pgv_tup {es : List Expr} {k : Nat} {n : Nat} (hc : X.calm = true) (h : PGsV X W T es gs) (hn : (assignEach es X.env).length = n := by rfl) (hst : (assignEach es X.env).findIdx? (·.1) = none := by rfl) : PGV X W T (.Tuple es k pos) (gTp n gs) := by
  refine PG.imp (pg_tup hc h hn hst) fun v σ H Q h => ?_
  obtain ⟨Z, ρ, Fs, d, ρ', rel, r, hg, q⟩ := h
  unfold gTp at hg
  split at hg
  · split at hg
    · rename_i hl
      obtain ⟨a, vs, e, hq, rs⟩ := r.tup_inv
      exact ⟨a, vs, e, hq, by rw [← rs.length]; exact hl, Z, ρ, Fs, _, ρ', rel, rs, hg, q⟩
    · cases hg
  · cases hg
/-- target = e, of data without owned things -/
def sAsg (g : D → Env → Option Env) (f : M D) : MS := fun ρ => (f ρ).bind fun p => if p.1.noOwn = true then (g p.1 p.2).bind fun ρ' => some (.nx ρ') else none
theorem psv_asg (he : PEV X T1 O1 x1 e f) (hg : PGV X W T2 tg g) (hs : swapsWithSole [tg] e pos.line X.env = pure false := by rfl) (hw : swappedStores [tg] e X.env = pure none := by rfl) (h1 : (assignEach [tg] X.env).map (·.2) = [assign tg X.env] := by rfl) :
    PSV X W (T1 ++ T2) (.Assign [tg] e pos) (sAsg g f) := by
  refine PS.imp (ps_asg he hg hs hw h1) fun D σ H h => ?_
  obtain ⟨Z, ρ, Fs, r, rel, hf, h1, h2, h3, h4⟩ := h
  unfold sAsg at hf
  obtain ⟨⟨d, ρ1⟩, hp, hf⟩ := Option.bind_eq_some_iff.mp hf
  split at hf
  · rename_i hn
    obtain ⟨ρ2, h5, hf⟩ := Option.bind_eq_some_iff.mp hf
    cases hf
    refine ⟨Z, ρ, Fs, d, ρ1, rel, hp, fun v H' Z' Fs' F rel' f' w c => ?_⟩
    have e := w.r.no hn
    subst e
    exact ⟨Z', ρ1, Fs', d, ρ2, rel', w.r, h5, fun σ2 H2 Z2 Fs2 fn2 => h1 _ rfl _ _ _ _ ((Fin.of rel' f').trans fn2)⟩
  · cases hf
/-- a, b = x, y with plain local names -/
def sPar (i j : Nat) (f : M (List D)) : MS := fun ρ => (f ρ).bind fun p => match p.1 with
  | [d, e] => some (.nx ((p.2.set i (some d)).set j (some e)))
  | _ => none
theorem psv_par (i j : Nat) {y z : Str} {a b : Expr} {px py pt : Pos} {kt k2 pt2} (hc : X.calm = true) (hN : X.N.Nodup) (ha : PAV X T [] true [a, b] fr) (hw : swappedStores [.Tuple [.Name y px, .Name z py] kt pt] (.Tuple [a, b] k2 pt2) X.env = pure (some [y, z]))
    (hi : X.N[i]? = some y := by rfl) (hj : X.N[j]? = some z := by rfl) (hij : i ≠ j := by decide) (hx : X.env.scope.names.lookup y = some .local := by rfl) (hy : X.env.scope.names.lookup z = some .local := by rfl)
    (hs : swapsWithSole [.Tuple [.Name y px, .Name z py] kt pt] (.Tuple [a, b] k2 pt2) pos.line X.env = pure false := by rfl) :
    PSV X [i, j] (j :: i :: T) (.Assign [.Tuple [.Name y px, .Name z py] kt pt] (.Tuple [a, b] k2 pt2) pos) (sPar i j fr) := by
  refine PS.imp (ps_par hc hN hi hj hij hx hy ha hw hs) fun D σ H h => ?_
  obtain ⟨Z, ρ, Fs, r, rel, hf, h1, h2, h3, h4⟩ := h
  unfold sPar at hf
  obtain ⟨⟨ds, ρ1⟩, hp, hf⟩ := Option.bind_eq_some_iff.mp hf
  refine ⟨Z, ρ, Fs, ds, ρ1, rel, hp, fun vs H' Z' Fs' F rel' f' w c => ?_⟩
  split at hf
  · rename_i d e hde
    cases hf
    have hde : ds = [d, e] := hde
    subst hde
    obtain ⟨v1, ws, F1, G, rfl, rfl, r1, rs⟩ := w.r.uncons
    obtain ⟨v2, ws2, F2, G2, rfl, rfl, r2, rs2⟩ := rs.uncons
    cases rs2
    rw [List.append_nil] at w c
    obtain ⟨nd, nz⟩ := w.exc rfl
    obtain ⟨nd1, nd2, nd12⟩ := List.nodup_append.mp nd
    have c1 : Cf T Fs H true F1 := fun h a ha => c h a (List.mem_append_left _ ha)
    have c2 : Cf T Fs H true F2 := fun h a ha => c h a (List.mem_append_right _ ha)
    have w1 : Val X.K Z' H' Fs' [] true d v1 F1 := ⟨r1, fun j a h1 h2 => w.ori j a (List.mem_append_left _ h1) h2, fun _ => ⟨nd1, fun a ha => nz a (List.mem_append_left _ ha)⟩⟩
    have p1 := Fin.put (i := i) rel' f' w1 c1
    have w2 : Val X.K Z' H' (fun k => if k = i then F1 else Fs' k) [] true e v2 F2 := ⟨r2, fun k a h1 h2 => ?_, fun _ => ⟨nd2, fun a ha => nz a (List.mem_append_right _ ha)⟩⟩
    · refine ⟨v1, v2, rfl, h1 _ rfl _ _ _ _ ⟨p1.rel.put w2, p1.frm.put (c2.mono fun k hk => List.mem_cons_of_mem _ hk), fun k hk => ?_, by rw [List.length_set, List.length_set]⟩⟩
      have hk1 : k ≠ i := fun e => hk (by rw [e]; simp)
      have hk2 : k ≠ j := fun e => hk (by rw [e]; simp)
      rw [List.getElem?_set_ne (Ne.symm hk2), List.getElem?_set_ne (Ne.symm hk1)]
    · by_cases q : k = i
      · simp only [if_pos q] at h2
        exact absurd rfl (nd12 a h2 a h1)
      · simp only [if_neg q] at h2
        exact w.ori k a (List.mem_append_right _ h1) h2
  · cases hf

/-! ### for -/
def forL (g : D → Env → Option Env) (body : MS) : List D → Env → Option Res
  | [], ρ => some (.nx ρ)
  | d :: ds, ρ => (g d ρ).bind fun ρ1 => (body ρ1).bind fun r => match r with
    | .nx ρ2 => forL g body ds ρ2
    | .ct ρ2 => forL g body ds ρ2
    | .bk ρ2 => some (.nx ρ2)
    | .rt d ρ2 => some (.rt d ρ2)
def sFor (fi : M (List D)) (g : D → Env → Option Env) (body : MS) : MS := fun ρ => (fi ρ).bind fun p => forL g body p.1 p.2
theorem tv_for {K : PySem.W.Frag} (ho : O.all (fun i => !(Tg ++ Tb).contains i) = true) {D : Ends} {σ : L2.St} {H : Hp} (h : tVS K (Wg ++ Wb) (T ++ (Tg ++ Tb)) (sFor fi g sb) D σ H) : tFor (tVI K T O fi) (tVG K Wg Tg g) (tVS K Wb Tb sb) D σ H := by
  obtain ⟨Z, ρ, Fs, r, rel, hf, h1, h2, h3, h4⟩ := h
  unfold sFor at hf
  obtain ⟨⟨items, ρ0⟩, hp, hf⟩ := Option.bind_eq_some_iff.mp hf
  refine ⟨Z, ρ, Fs, items, ρ0, rel, hp, fun J H0 Z0 Fs0 A G Y rel0 f0 wk hA stay => ?_⟩
  have far : ∀ a ∈ A, ¬ ∃ j ∈ Tg ++ Tb, a ∈ Fs0 j := fun a ha ⟨j, hj, hf⟩ => by
    have q := List.all_eq_true.mp ho j (hA j a ha hf)
    simp only [Bool.not_eq_true', List.contains_eq_mem, decide_eq_false_iff_not] at q
    exact q hj
  have znot : ∀ a, Z0 a → ¬ ∃ j ∈ Tg ++ Tb, a ∈ Fs0 j := fun a z ⟨j, _, ha⟩ => rel0.nz j a ha z
  have fin0 := Fin.of (σ := σ) rel0 f0
  refine for_it (n := items.length) wk (fun i σi Hi => ∃ Zi ρi Fsi, Fin K (Wg ++ Wb) (Tg ++ Tb) Z0 ρ0 Fs0 σ H0 Zi ρi Fsi σi Hi ∧ forL g sb (items.drop i) ρi = some r)
    ⟨Z0, ρ0, Fs0, Fin.refl _ _ rel0, by rw [List.drop_zero]; exact hf⟩ (fun i σi Hi hi ⟨Zi, ρi, Fsi, fn, _⟩ => (stay _ Zi Hi fn.frm.keep far znot fn.frm.zz).1) (fun i v σi Hi H' hi ⟨Zi, ρi, Fsi, fn, hl⟩ y => ?_) (fun σi Hi ⟨Zi, ρi, Fsi, fn, hl⟩ => ?_)
  · have hd : items[i]? = some items[i] := List.getElem?_eq_getElem hi
    obtain ⟨k, rv⟩ := (stay _ Zi Hi fn.frm.keep far znot fn.frm.zz).2 i v H' _ y hd
    rw [List.drop_eq_getElem_cons hi] at hl
    obtain ⟨ρ1, hg1, hl⟩ := Option.bind_eq_some_iff.mp hl
    obtain ⟨r1, hb1, hl⟩ := Option.bind_eq_some_iff.mp hl
    have rel1 := fn.rel.keep0 k
    have fn0 : Fin K (Wg ++ Wb) (Tg ++ Tb) Z0 ρ0 Fs0 σ H0 Zi ρi Fsi σi H' := by
      have f3 := fn.frm.trans (Frm.pureT [] k)
      rw [List.append_nil] at f3
      exact ⟨rel1, f3, fn.sg, fn.sl⟩
    refine ⟨Zi, ρi, Fsi, items[i], ρ1, rel1, rv, hg1, fun σ2 H2 Z2 Fs2 fn2 => ?_⟩
    have up : ∀ {Z3 ρ3 Fs3 σ3 H3}, Fin K Wb Tb Z2 ρ1 Fs2 σ2 H2 Z3 ρ3 Fs3 σ3 H3 → Fin K (Wg ++ Wb) (Tg ++ Tb) Z0 ρ0 Fs0 σ H0 Z3 ρ3 Fs3 σ3 H3 := fun fn3 =>
      (fn0.trans (fn2.trans fn3)).mono (fun j hj => (List.mem_append.mp hj).elim id id) (fun j hj => (List.mem_append.mp hj).elim id id)
    refine ⟨Z2, ρ1, Fs2, r1, fn2.rel, hb1, fun ρ3 e σ3 H3 Z3 Fs3 fn3 => ?_, fun ρ3 e σ3 H3 Z3 Fs3 fn3 => ?_, fun ρ3 e σ3 H3 Z3 Fs3 fn3 => ?_, fun d ρ3 e σ3 v3 H3 Z3 Fs3 F fn3 w cf => ?_⟩
    · subst e
      exact ⟨Z3, ρ3, Fs3, up fn3, hl⟩
    · subst e
      cases hl
      exact h1 _ rfl _ _ _ _ (fin0.trans (up fn3))
    · subst e
      exact ⟨Z3, ρ3, Fs3, up fn3, hl⟩
    · subst e
      cases hl
      have ca := Cf.late fn2.frm cf
      have cb := (Cf.late fn0.frm ca).mono (T1 := Tg ++ Tb) fun j hj => (List.mem_append.mp hj).elim id id
      exact h4 _ _ rfl _ _ _ _ _ _ (fin0.trans (up fn3)) w (Cf.late f0 cb)
  · rw [List.drop_length] at hl
    cases hl
    exact h1 _ rfl _ _ _ _ (fin0.trans fn)
theorem psv_for (hp : PassesOwn (model X.prog X.w) X.A X.env X.xe) (hc : X.calm = true) (hi : PIV X T O tg iter fi) (hg : PGV X Wg Tg tg g) (hb : PSsV X Wb Tb bd sb) (ho : O.all (fun i => !(Tg ++ Tb).contains i) = true := by rfl)
    (hs : ∀ x, foldedSetIterable iter X.env x = pure x := by intro _; rfl) : PSV X (Wg ++ Wb) (T ++ (Tg ++ Tb)) (.For tg iter bd [] pos) (sFor fi g sb) := by
  exact PS.imp (ps_for hp hc hi hg hb hs) fun D σ H h => tv_for ho h
end
end Vl

namespace Vl
open PySem PySem.Spec PyProof.Rows L2

/-! ### while -/
def whileN : Nat → M Bool → MS → Env → Option Res
  | 0, _, _, _ => none
  | n + 1, t, b, ρ => (t ρ).bind fun p => if p.1 = true then (b p.2).bind fun r => match r with
      | .nx ρ2 => whileN n t b ρ2
      | .ct ρ2 => whileN n t b ρ2
      | .bk ρ2 => some (.nx ρ2)
      | .rt d ρ2 => some (.rt d ρ2)
    else some (.nx p.2)
def fuel : Nat := 1000000
def sWhile (t : M Bool) (b : MS) : MS := whileN fuel t b
theorem whileN_mono {t : M Bool} {b : MS} : ∀ {n m : Nat} {ρ : Env} {r : Res}, n ≤ m → whileN n t b ρ = some r → whileN m t b ρ = some r
  | 0, _, _, _, _, h => nomatch h
  | n + 1, 0, _, _, h, _ => absurd h (by omega)
  | n + 1, m + 1, ρ, r, hm, h => by
    unfold whileN at h ⊢
    obtain ⟨p, h1, h⟩ := Option.bind_eq_some_iff.mp h
    rw [h1]
    show (if p.1 = true then _ else _) = _
    split at h
    · rename_i hp
      rw [if_pos hp]
      obtain ⟨q, h2, h⟩ := Option.bind_eq_some_iff.mp h
      rw [h2]
      cases q with
      | nx ρ2 => exact whileN_mono (by omega) h
      | ct ρ2 => exact whileN_mono (by omega) h
      | bk ρ2 => exact h
      | rt d ρ2 => exact h
    · rename_i hp
      rw [if_neg hp]
      exact h
theorem sWhile_of {t : M Bool} {b : MS} {n : Nat} {ρ : Env} {r : Res} (hn : n ≤ fuel) (h : whileN n t b ρ = some r) : sWhile t b ρ = some r := whileN_mono hn h

section
variable {X : Cx} {T T1 T2 T3 O O1 O2 O3 W W1 W2 Wg Tg Wb Tb : List Nat} {x x1 x2 x3 : Bool} {e c tg iter : Expr} {f fa : M D} {fi fr : M (List D)} {fc : M Bool} {s1 s2 sb : MS} {st : Stmt} {sts a b body es : List Expr} {bd : List Stmt} {pos : Pos} {g : D → Env → Option Env} {gs : List D → Env → Option Env}
theorem psv_while (hp : PassesOwn (model X.prog X.w) X.A X.env X.xe) (hc : PTV X T c fc) (hb : PSsV X Wb Tb bd sb) : PSV X Wb (T ++ Tb) (.While c bd [] pos) (sWhile fc sb) := by
  refine PS.imp (ps_while hp hc hb) fun D σ H h => ?_
  obtain ⟨Z, ρ, Fs, r, rel, hf, h1, h2, h3, h4⟩ := h
  refine ⟨fun n σi Hi => ∃ Zi ρi Fsi, Fin X.K Wb (T ++ Tb) Z ρ Fs σ H Zi ρi Fsi σi Hi ∧ whileN n fc sb ρi = some r, ⟨fuel, Z, ρ, Fs, Fin.refl _ _ rel, hf⟩, fun n σi Hi ⟨Zi, ρi, Fsi, fn, hl⟩ => ?_⟩
  cases n with
  | zero => cases hl
  | succ n =>
    unfold whileN at hl
    obtain ⟨⟨k, ρ1⟩, ht, hl⟩ := Option.bind_eq_some_iff.mp hl
    refine ⟨Zi, ρi, Fsi, k, ρ1, fn.rel, ht, fun H1 Z1 Fs1 rel1 f1 => ?_⟩
    have fn1 := fn.trans (Fin.of rel1 f1)
    cases k with
    | false =>
      rw [if_neg Bool.false_ne_true] at hl
      cases hl
      refine iteF ?_
      exact h1 _ rfl _ _ _ _ (fn1.mono (fun j hj => (List.mem_append.mp hj).elim id fun h => (by cases h)) fun j hj => (List.mem_append.mp hj).elim id fun h => List.mem_append_left _ h)
    | true =>
      rw [if_pos rfl] at hl
      refine iteT ?_
      obtain ⟨q, hb1, hl⟩ := Option.bind_eq_some_iff.mp hl
      have up : ∀ {Z3 ρ3 Fs3 σ3 H3}, Fin X.K Wb Tb Z1 ρ1 Fs1 σi H1 Z3 ρ3 Fs3 σ3 H3 → Fin X.K Wb (T ++ Tb) Z ρ Fs σ H Z3 ρ3 Fs3 σ3 H3 := fun fn3 =>
        (fn1.trans fn3).mono (fun j hj => (List.mem_append.mp hj).elim (fun h => (List.mem_append.mp h).elim id fun h => (by cases h)) id)
          fun j hj => (List.mem_append.mp hj).elim (fun h => (List.mem_append.mp h).elim id fun h => List.mem_append_left _ h) fun h => List.mem_append_right _ h
      refine ⟨fun σ' H' => ∃ Z3 ρ3 Fs3, Fin X.K Wb (T ++ Tb) Z ρ Fs σ H Z3 ρ3 Fs3 σ' H' ∧ whileN n fc sb ρ3 = some r, fun σ' H' h => ⟨n, Nat.lt_succ_self n, h⟩, ?_⟩
      refine ⟨Z1, ρ1, Fs1, q, rel1, hb1, fun ρ3 e σ3 H3 Z3 Fs3 fn3 => ?_, fun ρ3 e σ3 H3 Z3 Fs3 fn3 => ?_, fun ρ3 e σ3 H3 Z3 Fs3 fn3 => ?_, fun d ρ3 e σ3 v3 H3 Z3 Fs3 F fn3 w cf => ?_⟩
      · subst e
        exact ⟨Z3, ρ3, Fs3, up fn3, hl⟩
      · subst e
        cases hl
        exact h1 _ rfl _ _ _ _ (up fn3)
      · subst e
        exact ⟨Z3, ρ3, Fs3, up fn3, hl⟩
      · subst e
        cases hl
        refine h4 _ _ rfl _ _ _ _ _ _ (up fn3) w ?_
        exact (Cf.late fn1.frm cf).mono fun j hj => (List.mem_append.mp hj).elim (fun h => (List.mem_append.mp h).elim id fun h => List.mem_append_left _ h) fun h => List.mem_append_right _ h

/-! ### what is walked: lists and tuples -/
def itemsOf : D → Option (List D)
  | .tup l => if D.noOwnL l = true then some l else none
  | .lst _ l => if D.noOwnL l = true then some l else none
  | .scr l => if D.noOwnL l = true then some l else none
  | _ => none
def iSeq (f : M D) : M (List D) := fun ρ => (f ρ).bind fun p => (itemsOf p.1).bind fun l => some (l, p.2)
def tSq (K : PySem.W.Frag) (tl : TE) : TI := fun σ H Rk => tl σ H fun x H1 => ∃ a, x = .ref a ∧ ((∃ xs, SqL K H1 a xs ∧ Rk (Itl K a) H1) ∨ (∃ xs, SqT K H1 a xs ∧ Rk (Itt K a) H1))
theorem pi_sq {l : Expr} {tl : TE} (hl : PE X l tl) : PI X tg l (tSq X.K tl) := by
  refine ⟨fun pins s σ H Rk I h => ?_⟩
  refine thn (hl.run pins s σ H _ I h) fun v s1 ⟨x, H1, I1, r1, q1⟩ => ?_
  obtain ⟨a, e, q⟩ := q1
  subst e
  cases r1
  rcases q with ⟨xs, hq, q⟩ | ⟨xs, hq, q⟩
  · obtain ⟨its, rv, p, hz⟩ := I1.list hq
    refine wpAny_pyIter_list p.isList ?_
    refine ⟨s1.heap.objs.size, [s1.heap.objs.size], _, _, H1, rfl, I1.kept (t' := s1.toks) fun b o e => Heap.get?_push_of_some _ e, turn_list a _, ⟨_, Heap.get?_push_size _ rfl, rfl, rfl⟩, fun b hb => ?_, q⟩
    have e : b = s1.heap.objs.size := by simpa using hb
    subst e
    exact I1.fpOk (Nat.le_refl _) (I1.hok.fresh (Nat.le_refl _))
  · obtain ⟨its, rv, p, hz⟩ := I1.tuple hq
    refine wpAny_pyIter_tuple (show s1.heap.IsTuple a its.toArray from p) ?_
    refine ⟨s1.heap.objs.size, [s1.heap.objs.size], _, _, H1, rfl, I1.kept (t' := s1.toks) fun b o e => Heap.get?_push_of_some _ e, turn_tuple a _, ⟨_, Heap.get?_push_size _ rfl, rfl, rfl⟩, fun b hb => ?_, q⟩
    have e : b = s1.heap.objs.size := by simpa using hb
    subst e
    exact I1.fpOk (Nat.le_refl _) (I1.hok.fresh (Nat.le_refl _))
/-- data that is a list (at a) of these items -/
theorem R.lst_at {K : PySem.W.Frag} {Z : Addr → Prop} {H : Hp} {o : Bool} {ds : List D} {v : V} {F : List Addr} (r : R K Z H (.lst o ds) v F) : ∃ a vs G, v = .ref a ∧ SqL K H a vs ∧ Rs K Z H ds vs G ∧ ∀ b ∈ G, b ∈ F := by
  cases r with
  | own h rs => exact ⟨_, _, _, rfl, SqL.of h, rs, fun b hb => List.mem_cons_of_mem _ hb⟩
  | fzn h z rs => exact ⟨_, _, _, rfl, SqL.of h, rs, fun b hb => hb⟩
theorem R.scr_at {K : PySem.W.Frag} {Z : Addr → Prop} {H : Hp} {ds : List D} {v : V} {F : List Addr} (r : R K Z H (.scr ds) v F) : ∃ a vs, v = .ref a ∧ F = [] ∧ SqL K H a vs ∧ Rs K Z H ds vs [] := by
  cases r with
  | knw h rs => exact ⟨_, _, rfl, rfl, h.l, rs⟩
theorem R.scr_keep {K : PySem.W.Frag} {Z Z' : Addr → Prop} {H H' : Hp} {ds : List D} {v : V} {F : List Addr} (r : R K Z H (.scr ds) v F) :
    ∃ a vs, v = .ref a ∧ SqL K H a vs ∧ ds.length = vs.length ∧ ∀ (M Z2 : Addr → Prop) (H2 : Hp), Keep M H H2 → (∀ b ∈ F, ¬ M b) → (∀ b, Z b → ¬ M b) → (∀ b, Z b → Z2 b) → SqL K H2 a vs ∧ Rs K Z2 H2 ds vs [] := by
  cases r with
  | knw h rs => exact ⟨_, _, rfl, h.l, rs.length, fun M Z2 H2 k hf hz hzz => ⟨(k.sqf h).l, rs.keep k hzz hz fun b hb => (by cases hb)⟩⟩
/-- .. and stays so -/
theorem R.lst_keep {K : PySem.W.Frag} {Z Z' : Addr → Prop} {H H' : Hp} {o : Bool} {ds : List D} {v : V} {F : List Addr} (r : R K Z H (.lst o ds) v F) (hn : D.noOwnL ds = true) :
    ∃ a vs, v = .ref a ∧ SqL K H a vs ∧ ds.length = vs.length ∧ ∀ (M Z2 : Addr → Prop) (H2 : Hp), Keep M H H2 → (∀ b ∈ F, ¬ M b) → (∀ b, Z b → ¬ M b) → (∀ b, Z b → Z2 b) → SqL K H2 a vs ∧ Rs K Z2 H2 ds vs [] := by
  cases r with
  | own h rs =>
    have e := rs.no hn
    subst e
    exact ⟨_, _, rfl, SqL.of h, rs.length, fun M Z2 H2 k hf hz hzz => ⟨SqL.of (k.out _ _ h (hf _ List.mem_cons_self)), rs.keep k hzz hz fun b hb => (by cases hb)⟩⟩
  | fzn h z rs => exact ⟨_, _, rfl, SqL.of h, rs.length, fun M Z2 H2 k hf hz hzz => ⟨SqL.of (k.out _ _ h (hz _ z)), rs.keep k hzz hz fun b hb => (by cases hb)⟩⟩
theorem R.tup_keep {K : PySem.W.Frag} {Z Z' : Addr → Prop} {H H' : Hp} {ds : List D} {v : V} {F : List Addr} (r : R K Z H (.tup ds) v F) (hn : D.noOwnL ds = true) :
    ∃ a vs, v = .ref a ∧ SqT K H a vs ∧ ds.length = vs.length ∧ ∀ (M Z2 : Addr → Prop) (H2 : Hp), Keep M H H2 → (∀ b, Z b → ¬ M b) → (∀ b, Z b → Z2 b) → SqT K H2 a vs ∧ Rs K Z2 H2 ds vs [] := by
  obtain ⟨a, vs, e, h, rs⟩ := r.tup_inv
  have e2 := rs.no hn
  subst e2
  exact ⟨_, _, e, h, rs.length, fun M Z2 H2 k hz hzz => ⟨k.sqt h, rs.keep k hzz hz fun b hb => (by cases hb)⟩⟩
theorem Rs.at0 {K : PySem.W.Frag} {Z : Addr → Prop} {H : Hp} {ds : List D} {vs : List V} {i : Nat} {d : D} {x : V} (rs : Rs K Z H ds vs []) (hd : ds[i]? = some d) (hx : vs[i]? = some x) : R K Z H d x [] := by
  obtain ⟨v, G, h1, h2, h3⟩ := rs.get hd
  rw [hx] at h1
  cases h1
  cases G with
  | nil => exact h2
  | cons a r => exact absurd (h3 a List.mem_cons_self) (by simp)
theorem stay_list {K : PySem.W.Frag} {Z : Addr → Prop} {H : Hp} {F : List Addr} {ds : List D} {a : Addr} {vs : List V} (st : ∀ (M Z2 : Addr → Prop) (H2 : Hp), Keep M H H2 → (∀ b ∈ F, ¬ M b) → (∀ b, Z b → ¬ M b) → (∀ b, Z b → Z2 b) → SqL K H2 a vs ∧ Rs K Z2 H2 ds vs []) :
    Stay K Z H F (fun h => SqL K h a vs) (YAt vs) ds := fun M Z2 H2 k hf hz hzz => by
  obtain ⟨q1, q2⟩ := st M Z2 H2 k hf hz hzz
  refine ⟨q1, fun i x h d y hd => ?_⟩
  obtain ⟨rfl, hx⟩ := y
  exact ⟨Keep.refl _ _, q2.at0 hd hx⟩
theorem stay_tup {K : PySem.W.Frag} {Z : Addr → Prop} {H : Hp} {F : List Addr} {ds : List D} {a : Addr} {vs : List V} (st : ∀ (M Z2 : Addr → Prop) (H2 : Hp), Keep M H H2 → (∀ b, Z b → ¬ M b) → (∀ b, Z b → Z2 b) → SqT K H2 a vs ∧ Rs K Z2 H2 ds vs []) :
    Stay K Z H F (fun h => SqT K h a vs) (YAt vs) ds := fun M Z2 H2 k hf hz hzz => by
  obtain ⟨q1, q2⟩ := st M Z2 H2 k hz hzz
  refine ⟨q1, fun i x h d y hd => ?_⟩
  obtain ⟨rfl, hx⟩ := y
  exact ⟨Keep.refl _ _, q2.at0 hd hx⟩
theorem piv_seq (h : PEV X T O x e f) : PIV X T O tg e (iSeq f) := by
  refine PI.imp (pi_sq h) fun σ H Rk h => ?_
  obtain ⟨Z, ρ, Fs, items, ρ', rel, hf, q⟩ := h
  unfold iSeq at hf
  obtain ⟨⟨d, ρ1⟩, h1, hf⟩ := Option.bind_eq_some_iff.mp hf
  obtain ⟨l, h2, hf⟩ := Option.bind_eq_some_iff.mp hf
  cases hf
  refine ⟨Z, ρ, Fs, d, _, rel, h1, fun v H' Z' Fs' F rel' f' w c => ?_⟩
  have w0 := w.r
  cases d <;> simp only [itemsOf] at h2 <;> try (cases h2)
  · split at h2
    · rename_i hn
      cases h2
      obtain ⟨a, vs, e, hq, hl, st⟩ := w.r.tup_keep (Z' := Z') (H' := H') hn
      refine ⟨a, e, .inr ⟨vs, hq, ?_⟩⟩
      have wk := walk_tup (K := X.K) (a := a) (xs := vs)
      rw [← hl] at wk
      exact q _ H' Z' Fs' F _ _ rel' f' wk w.ori (stay_tup st)
    · cases h2
  · split at h2
    · rename_i hn
      cases h2
      obtain ⟨a, vs, e, hq, hl, st⟩ := w.r.lst_keep (Z' := Z') (H' := H') hn
      refine ⟨a, e, .inl ⟨vs, hq, ?_⟩⟩
      have wk := walk_list (K := X.K) (a := a) (xs := vs)
      rw [← hl] at wk
      exact q _ H' Z' Fs' F _ _ rel' f' wk w.ori (stay_list st)
    · cases h2
  · split at h2
    · rename_i hn
      cases h2
      obtain ⟨a, vs, e, hq, hl, st⟩ := w.r.scr_keep (Z' := Z') (H' := H')
      refine ⟨a, e, .inl ⟨vs, hq, ?_⟩⟩
      have wk := walk_list (K := X.K) (a := a) (xs := vs)
      rw [← hl] at wk
      exact q _ H' Z' Fs' F _ _ rel' f' wk w.ori (stay_list st)
    · cases h2

/-! ### ranges -/
def rgItems (lo : Int) (n : Nat) : List D := (List.range n).map fun i => .int (lo + (i : Nat))
def okR (i : Int) : Bool := decide (-1000000000 ≤ i) && decide (i ≤ 1000000000)
def iRg1 (fr : M (List D)) : M (List D) := fun ρ => (fr ρ).bind fun p => match p.1 with
  | [.int j] => if okR j = true then some (rgItems 0 j.toNat, p.2) else none
  | _ => none
def iRg2 (fr : M (List D)) : M (List D) := fun ρ => (fr ρ).bind fun p => match p.1 with
  | [.int i, .int j] => if (okR i && okR j) = true then some (rgItems i (j - i).toNat, p.2) else none
  | _ => none
theorem okR_of {i : Int} (h : okR i = true) : -1000000000 ≤ i ∧ i ≤ 1000000000 := by
  unfold okR at h
  rw [Bool.and_eq_true] at h
  exact ⟨of_decide_eq_true h.1, of_decide_eq_true h.2⟩
theorem stay_range {K : PySem.W.Frag} {Z : Addr → Prop} {H : Hp} {lo : Int} {n : Nat} : Stay K Z H [] (fun _ => True) (YFn fun i => .int (lo + i)) (rgItems lo n) := fun M Z2 H2 k hf hz hzz => by
  refine ⟨trivial, fun i x h d y hd => ?_⟩
  obtain ⟨rfl, rfl⟩ := y
  unfold rgItems at hd
  rw [List.getElem?_map] at hd
  cases e : (List.range n)[i]? with
  | none => rw [e] at hd; cases hd
  | some k =>
    rw [e] at hd
    cases hd
    have : k = i := by
      rw [List.getElem?_range] at e
      · cases e; rfl
      · have := (List.getElem?_eq_some_iff.mp e).1
        simpa using this
    subst this
    exact ⟨Keep.refl _ _, .int _⟩
theorem Rs.ints1 {K : PySem.W.Frag} {Z : Addr → Prop} {H : Hp} {i : Int} {vs : List V} {F : List Addr} (rs : Rs K Z H [.int i] vs F) : vs = [.int i] := by
  obtain ⟨v, ws, F1, F2, rfl, rfl, r, rs⟩ := rs.uncons
  cases rs
  cases r
  rfl
theorem Rs.ints2 {K : PySem.W.Frag} {Z : Addr → Prop} {H : Hp} {i j : Int} {vs : List V} {F : List Addr} (rs : Rs K Z H [.int i, .int j] vs F) : vs = [.int i, .int j] := by
  obtain ⟨v, ws, F1, F2, rfl, rfl, r, rs⟩ := rs.uncons
  have e := rs.ints1
  subst e
  cases r
  rfl
theorem rgItems_length (lo : Int) (n : Nat) : (rgItems lo n).length = n := by unfold rgItems; rw [List.length_map, List.length_range]
theorem piv_range1 {a : Expr} {p : Pos} (hg : Gl X "range") (hm : X.mg "range" = none) (ha : PAV X T O x [a] fr) (hs : starEach [a] X.env = [(false, eval a X.env)] := by rfl) : PIV X T [] tg (.Call (.Name "range" p) [a] [] pos) (iRg1 fr) := by
  refine PI.imp (pi_range1 hg hm ha hs) fun σ H Rk h => ?_
  obtain ⟨Z, ρ, Fs, items, ρ', rel, hf, q⟩ := h
  unfold iRg1 at hf
  obtain ⟨⟨ds, ρ1⟩, h1, hf⟩ := Option.bind_eq_some_iff.mp hf
  split at hf
  · rename_i j e
    split at hf
    · rename_i hok
      cases hf
      obtain ⟨q1, q2⟩ := okR_of hok
      refine ⟨Z, ρ, Fs, ds, _, rel, h1, fun vs H' Z' Fs' F rel' f' w c => ?_⟩
      have e : ds = [.int j] := e
      subst e
      refine ⟨j, w.r.ints1, by omega, by omega, ?_⟩
      have wk := walk_range (lo := 0) (n := j.toNat)
      refine q _ H' Z' Fs' [] _ _ rel' f' ?_ (fun _ _ h => (by cases h)) stay_range
      rw [rgItems_length]
      exact wk
    · cases hf
  · cases hf
theorem piv_range2 {a b : Expr} {p : Pos} (hg : Gl X "range") (hm : X.mg "range" = none) (ha : PAV X T O x [a, b] fr) (hs : starEach [a, b] X.env = [(false, eval a X.env), (false, eval b X.env)] := by rfl) (hs2 : starEach [b] X.env = [(false, eval b X.env)] := by rfl) :
    PIV X T [] tg (.Call (.Name "range" p) [a, b] [] pos) (iRg2 fr) := by
  refine PI.imp (pi_range2 hg hm ha hs hs2) fun σ H Rk h => ?_
  obtain ⟨Z, ρ, Fs, items, ρ', rel, hf, q⟩ := h
  unfold iRg2 at hf
  obtain ⟨⟨ds, ρ1⟩, h1, hf⟩ := Option.bind_eq_some_iff.mp hf
  split at hf
  · rename_i i j e
    split at hf
    · rename_i hok
      cases hf
      rw [Bool.and_eq_true] at hok
      obtain ⟨q1, q2⟩ := okR_of hok.1
      obtain ⟨q3, q4⟩ := okR_of hok.2
      refine ⟨Z, ρ, Fs, ds, _, rel, h1, fun vs H' Z' Fs' F rel' f' w c => ?_⟩
      have e : ds = [.int i, .int j] := e
      subst e
      refine ⟨i, j, w.r.ints2, ⟨by omega, by omega, by omega, by omega⟩, ?_⟩
      have wk := walk_range (lo := i) (n := (j - i).toNat)
      refine q _ H' Z' Fs' [] _ _ rel' f' ?_ (fun _ _ h => (by cases h)) stay_range
      rw [rgItems_length]
      exact wk
    · cases hf
  · cases hf
end
end Vl

namespace Vl
open PySem PySem.Spec PyProof.Rows L2

/-! ### defs -/
abbrev FD := List D → Option (D × List D)
/-- the promise of a def: its first m parameters may be changed; F tells the answer and what these become -/
def spV (K : PySem.W.Frag) (np m : Nat) (F : FD) : Sp := fun vs H Q _ => ∃ Z ds Gs d es, Rel K Z (ds.map some) (vs.map some) H Gs ∧ (∀ i, m ≤ i → Gs i = []) ∧ ds.length = np ∧ m ≤ np ∧ F ds = some (d, es) ∧ es.length = m ∧
  ∀ v H' Z' Gs' F', Rel K Z' ((es ++ ds.drop m).map some) (vs.map some) H' Gs' → Frm (List.range m) Z (ds.map some) Gs H Z' ((es ++ ds.drop m).map some) Gs' H' → Val K Z' H' Gs' [] true d v F' → Cf (List.range m) Gs H true F' → Q v H'
/-- a def's run: np parameters, n slots -/
def outs : Nat → Env → Option (List D)
  | 0, _ => some []
  | m + 1, ρ => (outs m ρ).bind fun l => (Env.at ρ m).bind fun d => some (l ++ [d])
def runF (np m n : Nat) (b : MS) : FD := fun ds => if ds.length = np then (b (ds.map some ++ List.replicate (n - np) none)).bind fun r => match r with
  | .rt d ρ => (outs m ρ).bind fun es => some (d, es)
  | .nx ρ => (outs m ρ).bind fun es => some (.non, es)
  | _ => none
  else none
theorem outs_len : ∀ {m : Nat} {ρ : Env} {es : List D}, outs m ρ = some es → es.length = m
  | 0, _, _, h => by cases h; rfl
  | m + 1, ρ, es, h => by
    unfold outs at h
    obtain ⟨l, h1, h⟩ := Option.bind_eq_some_iff.mp h
    obtain ⟨d, h2, h⟩ := Option.bind_eq_some_iff.mp h
    cases h
    rw [List.length_append, outs_len h1]
    rfl
theorem outs_get : ∀ {m : Nat} {ρ : Env} {es : List D} {i : Nat}, outs m ρ = some es → i < m → ∃ d, es[i]? = some d ∧ Env.at ρ i = some d
  | 0, _, _, _, _, h => absurd h (by omega)
  | m + 1, ρ, es, i, h, hi => by
    unfold outs at h
    obtain ⟨l, h1, h⟩ := Option.bind_eq_some_iff.mp h
    obtain ⟨d, h2, h⟩ := Option.bind_eq_some_iff.mp h
    cases h
    have hl := outs_len h1
    by_cases q : i < m
    · obtain ⟨d', h3, h4⟩ := outs_get h1 q
      exact ⟨d', by rw [List.getElem?_append_left (by omega)]; exact h3, h4⟩
    · have e : i = m := by omega
      subst e
      exact ⟨d, by rw [List.getElem?_append_right (by omega), hl, Nat.sub_self]; rfl, h2⟩
abbrev FnV (P : Program) (w : World) (K : PySem.W.Frag) (mg : Str → Option Value) (base : Heap) (k : Nat) (f : Addr) (fd : FuncData) (ps : List Str) (m : Nat) (F : FD) : Prop := FnOk P w K mg base CX0 k f fd ps (spV K ps.length m F)

section
variable {P : Program} {w : World} {K : PySem.W.Frag} {mg : Str → Option Value} {base : Heap} {W T : List Nat} {b : MS}
theorem spV_len {np m : Nat} {F : FD} {vs : List V} {H : Hp} {Q : VK} {E : XK} (h : spV K np m F vs H Q E) : vs.length = np := by
  obtain ⟨Z, ds, Gs, d, es, rel, _, hl, _⟩ := h
  have e := rel.len
  rw [List.length_map, List.length_map] at e
  omega
/-- THE RULE for a def: its body -/
theorem fnv {y qual : Str} {st : Stmt} {f : Addr} {fd : FuncData} {N ps : List Str} {k m : Nat} (F : Fun K y qual st f fd) (S : FnScope N ps (defScope st)) (hm : m ≤ ps.length) (hW : ∀ i, i < m → i ∉ W)
    (hbody : ∀ (cdv : Value) (A : Around) (outer : List PySem.Env) (s : Shared) (H : Hp) (E : XK), Room k (A.deeper (envOfC qual (defScope st) s.heap.objs.size f cdv)) → PSsV (cxOf CX0 P w K mg base N qual (defScope st) f cdv A outer s H E).nox W T (defBody st) b) :
    FnV P w K mg base (k + 1) f fd ps m (runF ps.length m N.length b) := by
  refine F.ok S (fun vs H Q E h => spV_len h) fun cdv A outer s H vs Q E hr h => ⟨_, hbody cdv A outer s H E hr, ?_⟩
  have hvl := spV_len h
  obtain ⟨Z, ds, Gs, d, es, rel, hg, hl, hm', hf, he, q⟩ := h
  unfold runF at hf
  rw [if_pos hl] at hf
  obtain ⟨r, hb, hf⟩ := Option.bind_eq_some_iff.mp hf
  have hpl : ps.length ≤ N.length := by have := congrArg List.length S.pre; rw [List.length_take] at this; omega
  have relS : Rel K Z (ds.map some ++ List.replicate (N.length - ps.length) none) (L2.start N vs) H Gs := by
    refine ⟨fun i d e => ?_, rel.nd, rel.dj, rel.nz, rel.zt, rel.ft, ?_⟩
    · by_cases hi : i < ds.length
      · rw [List.getElem?_append_left (by rw [List.length_map]; exact hi)] at e
        obtain ⟨v, h1, h2⟩ := rel.at_ i d e
        refine ⟨v, ?_, h2⟩
        unfold L2.start
        rw [List.getElem?_append_left (by rw [List.length_map]; omega)]
        exact h1
      · rw [List.getElem?_append_right (by rw [List.length_map]; omega), List.getElem?_replicate] at e
        split at e <;> cases e
    · unfold L2.start
      rw [List.length_append, List.length_append, List.length_map, List.length_map, List.length_replicate, List.length_replicate]
      omega
  have fin : ∀ {d0 : D} {ρ' : Env} {σ' : L2.St} {v : V} {H' : Hp} {Z' : Addr → Prop} {Fs' : Ft} {F' : List Addr}, Fin K W T Z (ds.map some ++ List.replicate (N.length - ps.length) none) Gs (L2.start N vs) H Z' ρ' Fs' σ' H' → Val K Z' H' Fs' [] true d0 v F' → Cf T Gs H true F' →
      ((outs m ρ').bind fun es => some (d0, es)) = some (d, es) → Q v H' := fun {d0 ρ' σ' v H' Z' Fs' F'} fn wv cf ho => by
    obtain ⟨es', h1, ho⟩ := Option.bind_eq_some_iff.mp ho
    cases ho
    have own : ∀ {a}, (∃ j ∈ T, a ∈ Gs j) → ∃ j ∈ List.range m, a ∈ Gs j := fun {a} ⟨j, hj, ha⟩ => by
      refine ⟨j, List.mem_range.mpr ?_, ha⟩
      refine Nat.lt_of_not_le fun hle => ?_
      rw [hg j hle] at ha
      cases ha
    have hG' : ∀ i, i < m → Fs' i = (fun j => if j < m then Fs' j else []) i := fun i hi => by simp [hi]
    refine q v H' Z' (fun j => if j < m then Fs' j else []) F' ⟨fun i d e => ?_, fun i => ?_, fun i j a h1 h2 => ?_, fun i a h => ?_, fn.rel.zt, fun i a h => ?_, ?_⟩ ⟨fun j hj => ?_, fn.frm.keep.mono fun a h => own h, fun j hj a ha => ?_, fun a h => ?_, fn.frm.zz, ?_⟩
      ⟨wv.r, fun j a h1 h2 => ?_, wv.exc⟩ fun h a ha => (cf h a ha).imp own id
    · by_cases hi : i < m
      · obtain ⟨d', h3, h4⟩ := outs_get h1 hi
        have e' : d' = d := by
          rw [List.getElem?_map, List.getElem?_append_left (by omega), h3] at e
          cases e; rfl
        subst e'
        obtain ⟨v', h5, h6⟩ := fn.rel.at_ i d' (Env.at_some h4)
        refine ⟨v', ?_, by simp only [if_pos hi]; exact h6⟩
        rw [fn.sg i (hW i hi)] at h5
        unfold L2.start at h5
        rw [List.getElem?_append_left (by rw [List.length_map]; omega)] at h5
        exact h5
      · have e2 : (ds.map some)[i]? = some (some d) := by
          rw [List.getElem?_map, List.getElem?_append_right (by omega), List.getElem?_drop, show m + (i - es.length) = i by omega, ← List.getElem?_map] at e
          exact e
        obtain ⟨v', h5, h6⟩ := rel.at_ i d e2
        refine ⟨v', h5, ?_⟩
        rw [hg i (by omega)] at h6
        simp only [if_neg hi]
        exact h6.keep fn.frm.keep fn.frm.zz (fun a z ⟨j, hj, ha⟩ => rel.nz j a ha z) fun a h => (by cases h)
    · by_cases hi : i < m
      · simp only [if_pos hi]; exact fn.rel.nd i
      · simp only [if_neg hi]; exact List.nodup_nil
    · by_cases hi : i < m
      · by_cases hj : j < m
        · simp only [if_pos hi] at h1
          simp only [if_pos hj] at h2
          exact fn.rel.dj i j a h1 h2
        · simp [hj] at h2
      · simp [hi] at h1
    · by_cases hi : i < m
      · simp only [if_pos hi] at h; exact fn.rel.nz i a h
      · simp [hi] at h
    · by_cases hi : i < m
      · simp only [if_pos hi] at h; exact fn.rel.ft i a h
      · simp [hi] at h
    · rw [List.length_map, List.length_append, List.length_drop, List.length_map]
      omega
    · have hj' : ¬ j < m := fun h => hj (List.mem_range.mpr h)
      refine ⟨by simp only [if_neg hj']; exact (hg j (by omega)).symm, ?_⟩
      rw [List.getElem?_map, List.getElem?_append_right (by omega), List.getElem?_drop, show m + (j - es.length) = j by omega, ← List.getElem?_map]
    · have hj' : j < m := List.mem_range.mp hj
      simp only [if_pos hj'] at ha
      by_cases hT : j ∈ T
      · exact (fn.frm.c1 j hT a ha).imp own id
      · rw [(fn.frm.sub j hT).1] at ha
        exact .inl ⟨j, hj, ha⟩
    · rcases fn.frm.c3 a h with z | z | z
      · exact .inl z
      · exact .inr (.inl (own z))
      · exact .inr (.inr z)
    · rw [List.length_map, List.length_append, List.length_drop, List.length_map]
      omega
    · by_cases hj : j < m
      · simp only [if_pos hj] at h2
        exact wv.ori j a h1 h2
      · simp [hj] at h2
  refine ⟨Z, _, Gs, r, relS, hb, fun ρ' e σ' H' Z' Fs' fn => ?_, fun ρ' e σ' H' Z' Fs' fn => ?_, fun ρ' e σ' H' Z' Fs' fn => ?_, fun d0 ρ' e σ' v H' Z' Fs' F' fn wv cf => ?_⟩
  · subst e
    exact fin fn ⟨.non, fun _ _ h => (by cases h), fun _ => ⟨List.nodup_nil, fun _ h => (by cases h)⟩⟩ Cf.nil hf
  · subst e
    cases hf
  · subst e
    cases hf
  · subst e
    exact fin fn wv cf hf
theorem FnV.imp {k : Nat} {f : Addr} {fd : FuncData} {ps : List Str} {m : Nat} {F G : FD} (h : FnV P w K mg base k f fd ps m F) (i : ∀ ds r, G ds = some r → F ds = some r) : FnV P w K mg base k f fd ps m G :=
  FnOk.imp h fun vs H Q E ⟨Z, ds, Gs, d, es, rel, hg, hl, hm, hf, q⟩ => ⟨Z, ds, Gs, d, es, rel, hg, hl, hm, i _ _ hf, q⟩
end

/-! ### calls -/
/-- a call of a def that changes none of its arguments -/
def fCall (F : FD) (fr : M (List D)) : M D := fun ρ => (fr ρ).bind fun p => (F (D.frzL p.1)).bind fun r => if (r.1.noFz || D.noOwnL p.1) = true then some (r.1, p.2) else none
/-- .. that changes its first one, the slot i -/
def fCallM (F : FD) (i : Nat) (fr : M (List D)) : M D := fun ρ => (Env.at ρ i).bind fun _ => (fr ρ).bind fun p => (Env.at p.2 i).bind fun o => if D.noOwnL p.1 = true then (F (o :: p.1)).bind fun r => match r.2 with
    | [o'] => some (r.1, p.2.set i (some o'))
    | _ => none
  else none
section
variable {X : Cx} {T T1 O W : List Nat} {x : Bool} {e : Expr} {es : List Expr} {fr : M (List D)} {pos : Pos}
theorem frzL_length : ∀ l : List D, (D.frzL l).length = l.length
  | [] => rfl
  | _ :: r => congrArg (· + 1) (frzL_length r)
theorem rel_args {K : PySem.W.Frag} {Z' : Addr → Prop} {H : Hp} {ds : List D} {vs : List V} (r : Rs K Z' H ds vs []) (zt : ∀ a, Z' a → H a ≠ none) : Rel K Z' (ds.map some) (vs.map some) H (fun _ => []) := by
  refine ⟨fun i d e => ?_, fun _ => List.nodup_nil, fun _ _ _ h => (by cases h), fun _ _ h => (by cases h), zt, fun _ _ h => (by cases h), by rw [List.length_map, List.length_map, r.length]⟩
  rw [List.getElem?_map] at e
  cases q : ds[i]? with
  | none => rw [q] at e; cases e
  | some d' =>
    rw [q] at e
    cases e
    obtain ⟨v, G, h1, h2, h3⟩ := r.get q
    refine ⟨v, by rw [List.getElem?_map, h1]; rfl, ?_⟩
    cases G with
    | nil => exact h2
    | cons a r => exact absurd (h3 a List.mem_cons_self) (by simp)
theorem tv_call {F : FD} {np : Nat} {sp : Sp} (hsp : sp = spV X.K np 0 F) (hnp : ∀ ds r, F ds = some r → ds.length = np ∧ r.2.length = 0) {σ : L2.St} {H : Hp} {Q : VK} {E : XK} (h : tV X.K T [] true (fCall F fr) σ H Q) : tCall sp [] E (tVL X.K T O x fr) σ H Q := by
  subst hsp
  obtain ⟨Z, ρ, Fs, d, ρ', rel, hf, q⟩ := h
  unfold fCall at hf
  obtain ⟨⟨ds, ρ1⟩, h1, hf⟩ := Option.bind_eq_some_iff.mp hf
  obtain ⟨⟨d', es'⟩, h2, hf⟩ := Option.bind_eq_some_iff.mp hf
  split at hf
  · rename_i hok
    cases hf
    refine ⟨Z, ρ, Fs, ds, _, rel, h1, fun vs H1 Z1 Fs1 F1 rel1 f1 w1 c1 => ?_⟩
    show spV X.K np 0 F (vs ++ []) H1 Q E
    rw [List.append_nil]
    have zt : ∀ a, (Z1 a ∨ a ∈ F1) → H1 a ≠ none := fun a h => h.elim (rel1.zt a) (w1.r.tr a)
    have r2 : Rs X.K (fun a => Z1 a ∨ a ∈ F1) H1 (D.frzL ds) vs [] := w1.r.freeze (fun _ h => .inl h) fun a h => .inr h
    obtain ⟨hl1, hl2⟩ := hnp _ _ h2
    refine ⟨fun a => Z1 a ∨ a ∈ F1, D.frzL ds, fun _ => [], d', es', rel_args r2 zt, fun _ _ => rfl, hl1, Nat.zero_le _, h2, hl2, fun v H' Z' Gs' F' rel2 f2 w2 c2 => ?_⟩
    have k0 : Keep M0 H1 H' := f2.keep.mono fun a ⟨j, hj, _⟩ => (by simp at hj)
    have nw : ∀ a ∈ F', H1 a = none := fun a ha => (c2 rfl a ha).elim (fun ⟨j, hj, _⟩ => (by simp at hj)) id
    have f3 := f1.trans (Frm.pureT [] k0)
    rw [List.append_nil] at f3
    rw [Bool.or_eq_true] at hok
    rcases hok with hn | hn
    · exact q v H' Z1 Fs1 F' (rel1.keep0 k0) f3 (Val.new rel1 (w2.r.any hn) (w2.exc rfl).1 nw) (Cf.new f1.keep nw)
    · have e := w1.r.no hn
      subst e
      -- the known set may have grown by new things
      have zz : ∀ a, Z' a → Z1 a ∨ H1 a = none := fun a h => by
        rcases f2.c3 a h with (z | z) | ⟨j, hj, _⟩ | z
        · exact .inl z
        · cases z
        · simp at hj
        · exact .inr z
      have up : ∀ a, Z1 a → Z' a := fun a z => f2.zz a (.inl z)
      have rel3 : Rel X.K Z' ρ1 σ H' Fs1 := ⟨fun i d e => let ⟨v, h1, h2⟩ := rel1.at_ i d e; ⟨v, h1, h2.keep k0 up (fun _ _ h => h) fun _ _ h => h⟩, rel1.nd, rel1.dj,
        fun i a h z => (zz a z).elim (rel1.nz i a h) (rel1.ft i a h), rel2.zt, fun i a h => k0.dom a (rel1.ft i a h), rel1.len⟩
      have f4 : Frm T Z ρ Fs H Z' ρ1 Fs1 H' := ⟨f3.sub, f3.keep, f3.c1, fun a h => (zz a h).elim (f3.c3 a) fun z => .inr (.inr (f1.keep.back z)), fun a h => up a (f1.zz a h), f3.len⟩
      exact q v H' Z' Fs1 F' rel3 f4 ⟨w2.r, fun j a h1 h2 => absurd (nw a h1) (rel1.ft j a h2), w2.exc⟩ (Cf.new f1.keep nw)
  · cases hf
theorem pev_call {k : Nat} {f : Addr} {fd : FuncData} {ps : List Str} {y : Str} {p : Pos} {F : FD} (G : FnV X.prog X.w X.K X.mg X.base k f fd ps 0 F) (hnp : ∀ ds r, F ds = some r → ds.length = ps.length ∧ r.2.length = 0) (hr : Room k X.A) (hg : Gl X y) (hm : X.mg y = some (.ref f)) (hk : PySem.W.keepIn X.K (.ref f) = true)
    (hb : Binds X.K fd ps []) (ha : PAV X T O x (e :: es) fr) (hdb : (y == ("__debug__" : Str)) = false := by decide) (he : starEach (e :: es) X.env = (false, eval e X.env) :: starEach es X.env := by rfl) (hpl : (backTo pos (starEach es X.env)).any (·.1) = false := by rfl) :
    PEV X T [] true (.Call (.Name y p) (e :: es) [] pos) (fCall F fr) :=
  PE.imp (pe_call G hr hg hm hk hb .nil pass0 ha hdb he hpl) fun _ _ _ h => tv_call rfl hnp h
theorem pev_callM (i : Nat) {k : Nat} {f : Addr} {fd : FuncData} {ps : List Str} {y z : Str} {p pz : Pos} {F : FD} (G : FnV X.prog X.w X.K X.mg X.base k f fd ps 1 F) (hnp : ∀ ds r, F ds = some r → ds.length = ps.length ∧ r.2.length = 1) (hp1 : 1 ≤ ps.length) (hr : Room k X.A) (hg : Gl X y) (hm : X.mg y = some (.ref f)) (hk : PySem.W.keepIn X.K (.ref f) = true)
    (hb : Binds X.K fd ps []) (ha : PAV X T O x es fr) (hN : X.N[i]? = some z := by rfl) (hv : Vis X.env.scope z := by first | exact Or.inl rfl | exact Or.inr (Or.inl rfl) | exact Or.inr (Or.inr rfl)) (hd : (z == ("__debug__" : Str)) = false := by decide) (hcd : (z == ("__classdict__" : Str)) = false := by decide)
    (hdb : (y == ("__debug__" : Str)) = false := by decide) (he : starEach (.Name z pz :: es) X.env = (false, eval (.Name z pz) X.env) :: starEach es X.env := by rfl) (hpl : (backTo pos (starEach es X.env)).any (·.1) = false := by rfl) :
    PEV X (T ++ [i]) [] true (.Call (.Name y p) (.Name z pz :: es) [] pos) (fCallM F i fr) := by
  refine PE.imp (pe_call G hr hg hm hk hb .nil pass0 (pa_cons (pe_var hN hv hd hcd) ha he) hdb he hpl) fun σ H Q h => ?_
  obtain ⟨Z, ρ, Fs, d, ρ', rel, hf, q⟩ := h
  unfold fCallM at hf
  obtain ⟨o0, h00, hf⟩ := Option.bind_eq_some_iff.mp hf
  obtain ⟨⟨ds, ρ1⟩, h1, hf⟩ := Option.bind_eq_some_iff.mp hf
  obtain ⟨o, h0, hf⟩ := Option.bind_eq_some_iff.mp hf
  split at hf
  · rename_i hn
    obtain ⟨⟨d', es'⟩, h2, hf⟩ := Option.bind_eq_some_iff.mp hf
    split at hf
    · rename_i o' he'
      cases hf
      have he' : es' = [o'] := he'
      subst he'
      obtain ⟨v0, hv0, _⟩ := rel.at_ i o0 (Env.at_some h00)
      refine ⟨v0, hv0, Z, ρ, Fs, ds, ρ1, rel, h1, fun vs H1 Z1 Fs1 F1 rel1 f1 w1 c1 => ?_⟩
      show spV X.K ps.length 1 F ((v0 :: vs) ++ []) H1 Q E0
      rw [List.append_nil]
      have hio := Env.at_some h0
      obtain ⟨v1, hv1, r0⟩ := rel1.at_ i o hio
      rw [hv0] at hv1
      cases hv1
      have e := w1.r.no hn
      subst e
      obtain ⟨hl1, hl2⟩ := hnp _ _ h2
      have ra := rel_args w1.r rel1.zt
      have relA : Rel X.K Z1 ((o :: ds).map some) ((v0 :: vs).map some) H1 (fun j => if j = 0 then Fs1 i else []) := by
        refine ⟨fun j d e => ?_, fun j => ?_, fun j k a h1 h2 => ?_, fun j a h => ?_, rel1.zt, fun j a h => ?_, by rw [List.length_map, List.length_map]; show ds.length + 1 = vs.length + 1; rw [w1.r.length]⟩
        · cases j with
          | zero => cases e; exact ⟨v0, rfl, r0⟩
          | succ j => exact ra.at_ j d e
        · by_cases q : j = 0
          · simp only [if_pos q]; exact rel1.nd i
          · simp only [if_neg q]; exact List.nodup_nil
        · by_cases q : j = 0
          · by_cases p : k = 0
            · rw [q, p]
            · simp [p] at h2
          · simp [q] at h1
        · by_cases q : j = 0
          · simp only [if_pos q] at h; exact rel1.nz i a h
          · simp [q] at h
        · by_cases q : j = 0
          · simp only [if_pos q] at h; exact rel1.ft i a h
          · simp [q] at h
      refine ⟨Z1, o :: ds, _, d', [o'], relA, fun j hj => if_neg (by omega), hl1, hp1, h2, rfl, fun v H' Z' Gs' F' rel2 f2 w2 c2 => ?_⟩
      have own0 : ∀ {a}, (∃ j ∈ List.range 1, a ∈ (if j = 0 then Fs1 i else [])) → a ∈ Fs1 i := fun {a} ⟨j, hj, ha⟩ => by
        have e : j = 0 := by have := List.mem_range.mp hj; omega
        subst e
        exact ha
      have k1 : Keep (fun a => a ∈ Fs1 i) H1 H' := f2.keep.mono fun a h => own0 h
      have g0 : ∀ a ∈ Gs' 0, a ∈ Fs1 i ∨ H1 a = none := fun a ha => (f2.c1 0 (by simp) a ha).imp own0 id
      have fF : ∀ a ∈ F', a ∈ Fs1 i ∨ H1 a = none := fun a ha => (c2 rfl a ha).imp own0 id
      have zF : ∀ a, Z' a → Z1 a ∨ a ∈ Fs1 i ∨ H1 a = none := fun a h => (f2.c3 a h).imp id fun h => h.imp own0 id
      obtain ⟨v2, hv2, r2⟩ := rel2.at_ 0 o' rfl
      cases hv2
      have hil := Env.lt hio
      have rel3 : Rel X.K Z' (ρ1.set i (some o')) σ H' (fun j => if j = i then Gs' 0 else Fs1 j) := by
        refine ⟨fun j d e => ?_, fun j => ?_, fun j k a h1 h2 => ?_, fun j a h z => ?_, rel2.zt, fun j a h => ?_, by rw [List.length_set]; exact rel1.len⟩
        · by_cases q : j = i
          · subst q
            rw [List.getElem?_set_self hil] at e
            cases e
            simp only [if_pos rfl]
            exact ⟨v0, hv0, r2⟩
          · rw [List.getElem?_set_ne (Ne.symm q)] at e
            simp only [if_neg q]
            obtain ⟨v', h1, h2⟩ := rel1.at_ j d e
            exact ⟨v', h1, h2.keep k1 f2.zz (fun a z h => rel1.nz i a h z) fun a ha h => q (rel1.dj j i a ha h)⟩
        · by_cases q : j = i
          · simp only [if_pos q]; exact rel2.nd 0
          · simp only [if_neg q]; exact rel1.nd j
        · by_cases q : j = i
          · by_cases p : k = i
            · rw [q, p]
            · simp only [if_pos q] at h1
              simp only [if_neg p] at h2
              rcases g0 a h1 with z | z
              · exact absurd (rel1.dj k i a h2 z) p
              · exact absurd z (rel1.ft k a h2)
          · by_cases p : k = i
            · simp only [if_neg q] at h1
              simp only [if_pos p] at h2
              rcases g0 a h2 with z | z
              · exact absurd (rel1.dj j i a h1 z) q
              · exact absurd z (rel1.ft j a h1)
            · simp only [if_neg q] at h1
              simp only [if_neg p] at h2
              exact rel1.dj j k a h1 h2
        · by_cases q : j = i
          · simp only [if_pos q] at h; exact rel2.nz 0 a h z
          · simp only [if_neg q] at h
            rcases zF a z with z | z | z
            · exact rel1.nz j a h z
            · exact q (rel1.dj j i a h z)
            · exact rel1.ft j a h z
        · by_cases q : j = i
          · simp only [if_pos q] at h; exact rel2.ft 0 a h
          · simp only [if_neg q] at h; exact k1.dom a (rel1.ft j a h)
      have f3 : Frm [i] Z1 ρ1 Fs1 H1 Z' (ρ1.set i (some o')) (fun j => if j = i then Gs' 0 else Fs1 j) H' := by
        refine ⟨fun j hj => ?_, k1.mono fun a h => ⟨i, List.mem_cons_self, h⟩, fun j hj a ha => ?_, fun a h => (zF a h).imp id fun h => h.imp (fun h => ⟨i, List.mem_cons_self, h⟩) id, f2.zz, by rw [List.length_set]⟩
        · have q : j ≠ i := fun e => hj (by rw [e]; exact List.mem_cons_self)
          exact ⟨if_neg q, List.getElem?_set_ne (Ne.symm q)⟩
        · have q : j = i := by simpa using hj
          simp only [if_pos q] at ha
          exact (g0 a ha).imp (fun h => ⟨i, List.mem_cons_self, h⟩) id
      refine q v H' Z' _ F' rel3 (f1.trans f3) ⟨w2.r, fun j a h1 h2 => ?_, w2.exc⟩ (Cf.late f1 fun _ a ha => (fF a ha).imp (fun h => ⟨i, List.mem_cons_self, h⟩) id)
      by_cases q : j = i
      · simp only [if_pos q] at h2
        exact absurd (w2.ori 0 a h1 h2) (by simp)
      · simp only [if_neg q] at h2
        rcases fF a h1 with z | z
        · exact absurd (rel1.dj j i a h2 z) q
        · exact absurd z (rel1.ft j a h2)
    · cases hf
  · cases hf
end
end Vl

namespace Vl
open PySem PySem.Spec PyProof.Rows L2

/-! ### list comprehensions -/
def wipeE (ρ : Env) : List Nat → Env
  | [] => ρ
  | v :: vs => (wipeE ρ vs).set v none
/-- the slots vs as they were in ρ0 -/
def backE (ρ0 ρ : Env) : List Nat → Env
  | [] => ρ
  | v :: vs => (backE ρ0 ρ vs).set v ((ρ0[v]?).getD none)
def ownOk (ρ : Env) (vs : List Nat) : Bool := vs.all fun i => match Env.at ρ i with
  | some d => d.noOwn
  | none => true
def compL (vs : List Nat) (g : D → Env → Option Env) (ft : M Bool) (fe : M D) : List D → Env → List D → Option (List D × Env)
  | [], ρ, acc => some (acc, ρ)
  | d :: ds, ρ, acc => (g d (wipeE ρ vs)).bind fun ρ1 => (ft ρ1).bind fun p => if p.1 = true then (fe p.2).bind fun q => if szOk acc.length = true then compL vs g ft fe ds q.2 (acc ++ [q.1]) else none
    else compL vs g ft fe ds p.2 acc
def fComp (vs : List Nat) (fi : M (List D)) (g : D → Env → Option Env) (ft : M Bool) (fe : M D) : M D := fun ρ => (fi ρ).bind fun p => if ownOk p.2 vs = true then (compL vs g ft fe p.1 p.2 []).bind fun q => some (.lst true q.1, backE p.2 q.2 vs) else none
def fYes : M Bool := fun ρ => some (true, ρ)

theorem wipeE_length (ρ : Env) : ∀ vs : List Nat, (wipeE ρ vs).length = ρ.length
  | [] => rfl
  | v :: vs => by unfold wipeE; rw [List.length_set, wipeE_length ρ vs]
theorem wipeE_out {ρ : Env} {i : Nat} : ∀ {vs : List Nat}, i ∉ vs → (wipeE ρ vs)[i]? = ρ[i]?
  | [], _ => rfl
  | v :: vs, h => by
    unfold wipeE
    rw [List.getElem?_set_ne fun e => h (by rw [← e]; exact List.mem_cons_self)]
    exact wipeE_out fun z => h (List.mem_cons_of_mem _ z)
theorem wipeE_in {ρ : Env} {i : Nat} : ∀ {vs : List Nat}, i ∈ vs → ∀ d, (wipeE ρ vs)[i]? ≠ some (some d)
  | v :: vs, h, d => by
    unfold wipeE
    by_cases q : v = i
    · subst q
      by_cases hl : v < (wipeE ρ vs).length
      · rw [List.getElem?_set_self hl]; intro z; cases z
      · rw [List.getElem?_eq_none (by simpa using hl)]; intro z; cases z
    · rw [List.getElem?_set_ne q]
      exact wipeE_in ((List.mem_cons.mp h).elim (fun e => absurd e.symm q) id) d
theorem backE_length (ρ0 ρ : Env) : ∀ vs : List Nat, (backE ρ0 ρ vs).length = ρ.length
  | [] => rfl
  | v :: vs => by unfold backE; rw [List.length_set, backE_length ρ0 ρ vs]
theorem backE_out {ρ0 ρ : Env} {i : Nat} : ∀ {vs : List Nat}, i ∉ vs → (backE ρ0 ρ vs)[i]? = ρ[i]?
  | [], _ => rfl
  | v :: vs, h => by
    unfold backE
    rw [List.getElem?_set_ne fun e => h (by rw [← e]; exact List.mem_cons_self)]
    exact backE_out fun z => h (List.mem_cons_of_mem _ z)
theorem backE_in {ρ0 ρ : Env} (hl : ρ.length = ρ0.length) {i : Nat} : ∀ {vs : List Nat}, i ∈ vs → (backE ρ0 ρ vs)[i]? = ρ0[i]?
  | v :: vs, h => by
    unfold backE
    by_cases q : v = i
    · subst q
      by_cases hv : v < ρ0.length
      · rw [List.getElem?_set_self (by rw [backE_length]; omega), List.getElem?_eq_getElem hv]
        rfl
      · rw [List.getElem?_eq_none (by rw [List.length_set, backE_length]; omega), List.getElem?_eq_none (by omega)]
    · rw [List.getElem?_set_ne q]
      exact backE_in hl ((List.mem_cons.mp h).elim (fun e => absurd e.symm q) id)
theorem wipe_out' {σ : L2.St} {i : Nat} {vs : List Nat} (h : i ∉ vs) : (wipe σ vs)[i]? = σ[i]? := by
  induction vs with
  | nil => rfl
  | cons v vs ih =>
    show ((wipe σ vs).set v none)[i]? = _
    rw [List.getElem?_set_ne fun e => h (by rw [← e]; exact List.mem_cons_self)]
    exact ih fun z => h (List.mem_cons_of_mem _ z)
theorem wipe_in {σ : L2.St} {i : Nat} {vs : List Nat} (h : i ∈ vs) : (wipe σ vs)[i]? = if i < σ.length then some none else none := by
  induction vs with
  | nil => cases h
  | cons v vs ih =>
    show ((wipe σ vs).set v none)[i]? = _
    by_cases q : v = i
    · subst q
      by_cases hl : v < σ.length
      · rw [if_pos hl, List.getElem?_set_self (by rw [wipe_length]; exact hl)]
      · rw [if_neg hl, List.getElem?_eq_none (by rw [List.length_set, wipe_length]; omega)]
    · rw [List.getElem?_set_ne q]
      exact ih ((List.mem_cons.mp h).elim (fun e => absurd e.symm q) id)
theorem wipe_eq {σ τ : L2.St} {vs : List Nat} (hl : τ.length = σ.length) (h : ∀ i, i ∉ vs → τ[i]? = σ[i]?) : wipe τ vs = wipe σ vs := by
  refine List.ext_getElem? fun i => ?_
  by_cases q : i ∈ vs
  · rw [wipe_in q, wipe_in q, hl]
  · rw [wipe_out' q, wipe_out' q, h i q]

section
variable {K : PySem.W.Frag} {Z Z' Z1 Z2 : Addr → Prop} {ρ ρ' ρ1 ρ2 : Env} {Fs Fs' Fs1 Fs2 : Ft} {H H' H1 H2 : Hp} {T T1 T2 O O1 O2 W W1 W2 : List Nat} {x : Bool} {d : D} {v : V} {F : List Addr} {σ σ' τ : L2.St}
def dropF (Fs : Ft) (vs : List Nat) : Ft := fun j => if j ∈ vs then [] else Fs j
theorem Rel.wipe (rel : Rel K Z ρ σ H Fs) (vs : List Nat) (hl : τ.length = σ.length) (h : ∀ i, i ∉ vs → τ[i]? = σ[i]?) : Rel K Z (wipeE ρ vs) τ H (dropF Fs vs) := by
  refine ⟨fun j e he => ?_, fun j => ?_, fun j k a h1 h2 => ?_, fun j a h => ?_, rel.zt, fun j a h => ?_, by rw [wipeE_length, hl]; exact rel.len⟩
  · by_cases q : j ∈ vs
    · exact absurd he (wipeE_in q e)
    · rw [wipeE_out q] at he
      rw [h j q]
      simp only [dropF, if_neg q]
      exact rel.at_ j e he
  · by_cases q : j ∈ vs
    · simp only [dropF, if_pos q]; exact List.nodup_nil
    · simp only [dropF, if_neg q]; exact rel.nd j
  · by_cases q : j ∈ vs
    · simp [dropF, q] at h1
    · by_cases p : k ∈ vs
      · simp [dropF, p] at h2
      · simp only [dropF, if_neg q] at h1
        simp only [dropF, if_neg p] at h2
        exact rel.dj j k a h1 h2
  · by_cases q : j ∈ vs
    · simp [dropF, q] at h
    · simp only [dropF, if_neg q] at h; exact rel.nz j a h
  · by_cases q : j ∈ vs
    · simp [dropF, q] at h
    · simp only [dropF, if_neg q] at h; exact rel.ft j a h
theorem Frm.wipe (vs : List Nat) : Frm vs Z ρ Fs H Z (wipeE ρ vs) (dropF Fs vs) H := by
  refine ⟨fun j hj => ⟨by simp [dropF, hj], wipeE_out hj⟩, Keep.refl _ _, fun j hj a ha => ?_, fun a h => .inl h, fun a h => h, wipeE_length _ _⟩
  simp [dropF, hj] at ha
theorem Val.wipe {vs : List Nat} (w : Val K Z H Fs O x d v F) : Val K Z H (dropF Fs vs) O x d v F := by
  refine ⟨w.r, fun j a h1 h2 => ?_, w.exc⟩
  by_cases q : j ∈ vs
  · simp [dropF, q] at h2
  · simp only [dropF, if_neg q] at h2; exact w.ori j a h1 h2
/-- a list that no slot holds grows -/
theorem Frm.wr {D : Addr} {o u : HO} (f : Frm T Z ρ Fs H Z' ρ' Fs' H') (hn : H D = none) (hD : H' D = some u) (hu : Mut (some u)) : Frm T Z ρ Fs H Z' ρ' Fs' (upd H' D o) :=
  ⟨f.sub, f.keep.trans (Keep.wr hD hu) (fun _ h => h) fun a h => .inr (by rw [h]; exact hn), f.c1, f.c3, f.zz, f.len⟩
theorem Rel.wr {D : Addr} {o u : HO} (rel : Rel K Z ρ σ H Fs) (hD : H D = some u) (hu : Mut (some u)) (hf : ∀ j, D ∉ Fs j) (hz : ¬ Z D) : Rel K Z ρ σ (upd H D o) Fs := by
  have k : Keep (fun a => a = D) H (upd H D o) := Keep.wr hD hu
  exact ⟨fun i d e => let ⟨v, h1, h2⟩ := rel.at_ i d e; ⟨v, h1, h2.keep k (fun _ h => h) (fun a z e => hz (by rw [← e]; exact z)) fun a ha e => hf i (by rw [← e]; exact ha)⟩, rel.nd, rel.dj, rel.nz,
    fun a h => k.dom a (rel.zt a h), fun i a h => k.dom a (rel.ft i a h), rel.len⟩
/-- a block's own slots are put back -/
theorem Rel.back {vs : List Nat} {ρ0 : Env} {Fs0 : Ft} {Z0 : Addr → Prop} {H0 : Hp} (rel0 : Rel K Z0 ρ0 σ H0 Fs0) (ok : ownOk ρ0 vs = true) (rel : Rel K Z ρ (L2.wipe σ vs) H Fs) (f : Frm T Z0 ρ0 Fs0 H0 Z ρ Fs H) : Rel K Z (backE ρ0 ρ vs) σ H (dropF Fs vs) := by
  refine ⟨fun j e he => ?_, fun j => ?_, fun j k a h1 h2 => ?_, fun j a h => ?_, rel.zt, fun j a h => ?_, by rw [backE_length, f.len]; exact rel0.len⟩
  · by_cases q : j ∈ vs
    · rw [backE_in f.len q] at he
      obtain ⟨v, h1, h2⟩ := rel0.at_ j e he
      have hn : e.noOwn = true := by
        have z := List.all_eq_true.mp ok j q
        unfold Env.at at z
        rw [he] at z
        exact z
      have e0 := h2.no hn
      rw [e0] at h2
      refine ⟨v, h1, ?_⟩
      simp only [dropF, if_pos q]
      exact h2.keep f.keep f.zz (fun a z ⟨k, hk, ha⟩ => rel0.nz k a ha z) fun a h => (by cases h)
    · rw [backE_out q] at he
      obtain ⟨v, h1, h2⟩ := rel.at_ j e he
      rw [wipe_out' q] at h1
      refine ⟨v, h1, ?_⟩
      simp only [dropF, if_neg q]
      exact h2
  · by_cases q : j ∈ vs
    · simp only [dropF, if_pos q]; exact List.nodup_nil
    · simp only [dropF, if_neg q]; exact rel.nd j
  · by_cases q : j ∈ vs
    · simp [dropF, q] at h1
    · by_cases p : k ∈ vs
      · simp [dropF, p] at h2
      · simp only [dropF, if_neg q] at h1
        simp only [dropF, if_neg p] at h2
        exact rel.dj j k a h1 h2
  · by_cases q : j ∈ vs
    · simp [dropF, q] at h
    · simp only [dropF, if_neg q] at h; exact rel.nz j a h
  · by_cases q : j ∈ vs
    · simp [dropF, q] at h
    · simp only [dropF, if_neg q] at h; exact rel.ft j a h
theorem Frm.back {vs : List Nat} {ρ0 : Env} {Fs0 : Ft} {Z0 : Addr → Prop} {H0 : Hp} (f : Frm T Z0 ρ0 Fs0 H0 Z ρ Fs H) : Frm (T ++ vs) Z0 ρ0 Fs0 H0 Z (backE ρ0 ρ vs) (dropF Fs vs) H := by
  have f2 := f.mono (T1 := T ++ vs) fun j hj => List.mem_append_left _ hj
  refine ⟨fun j hj => ?_, f2.keep, fun j hj a ha => ?_, f2.c3, f2.zz, by rw [backE_length]; exact f2.len⟩
  · have q : j ∉ vs := fun z => hj (List.mem_append_right _ z)
    have h := f2.sub j hj
    exact ⟨by simp only [dropF, if_neg q]; exact h.1, by rw [backE_out q]; exact h.2⟩
  · by_cases q : j ∈ vs
    · simp [dropF, q] at ha
    · simp only [dropF, if_neg q] at ha
      exact f2.c1 j hj a ha
end

section
variable {X : Cx} {T T1 T2 T3 O O1 O2 O3 W W1 W2 Wg Tg Tt Te : List Nat} {x x1 x2 x3 : Bool} {e c tg iter elt : Expr} {ifs : List Expr} {f fa fe : M D} {fi fr : M (List D)} {ft : M Bool} {pos : Pos} {g : D → Env → Option Env}
/-- one item more -/
theorem Val.app {K : PySem.W.Frag} {Z : Addr → Prop} {H : Hp} {Fs : Ft} {acc : List D} {DD : Addr} {F G : List Addr} {d : D} {v : V} (w : Val K Z H Fs [] true (.lst true acc) (.ref DD) F) (w2 : Val K Z H Fs [] true d v G) (hdj : ∀ a ∈ F, a ∉ G) :
    ∃ vs F0, H DD = some (.lst vs) ∧ vs.length = acc.length ∧ Val K Z (upd H DD (.lst (vs ++ [v]))) Fs [] true (.lst true (acc ++ [d])) (.ref DD) (DD :: (F0 ++ G)) ∧ DD ∈ F ∧ ∀ a ∈ F0, a ∈ F := by
  have hr := w.r
  obtain ⟨nd, nz⟩ := w.exc rfl
  obtain ⟨nd2, nz2⟩ := w2.exc rfl
  cases hr with
  | own h rs =>
    rename_i vs F0
    have k : Keep (fun a => a = DD) H (upd H DD (.lst (vs ++ [v]))) := Keep.wr h trivial
    have hm : DD ∈ DD :: F0 := List.mem_cons_self
    obtain ⟨n1, n2⟩ := List.nodup_cons.mp nd
    have hz : ∀ a, Z a → ¬ a = DD := fun a z e => nz DD hm (by rw [← e]; exact z)
    have hG : DD ∉ G := hdj DD hm
    refine ⟨vs, F0, h, rs.length.symm, ⟨.own upd_same (Rs.app (rs.keep k (fun _ h => h) hz fun a ha e => n1 (by rw [← e]; exact ha)) (Rs.one (w2.r.keep k (fun _ h => h) hz fun a ha e => hG (by rw [← e]; exact ha)))), fun j a h1 h2 => ?_, fun _ => ⟨?_, fun a ha => ?_⟩⟩, hm, fun a ha => List.mem_cons_of_mem _ ha⟩
    · rcases List.mem_cons.mp h1 with e | h1
      · exact w.ori j a (by rw [e]; exact hm) h2
      · rcases List.mem_append.mp h1 with h1 | h1
        · exact w.ori j a (List.mem_cons_of_mem _ h1) h2
        · exact w2.ori j a h1 h2
    · refine List.nodup_cons.mpr ⟨fun z => (List.mem_append.mp z).elim n1 hG, List.nodup_append.mpr ⟨n2, nd2, fun a h1 b h2 e => ?_⟩⟩
      subst e
      exact hdj a (List.mem_cons_of_mem _ h1) h2
    · rcases List.mem_cons.mp ha with e | h1
      · exact nz a (by rw [e]; exact hm)
      · rcases List.mem_append.mp h1 with h1 | h1
        · exact nz a (List.mem_cons_of_mem _ h1)
        · exact nz2 a h1
abbrev PTsV (X : Cx) (T : List Nat) (ifs : List Expr) (f : M Bool) : Prop := PTs X ifs (tVT X.K T f)
theorem ptsv_nil : PTsV X [] [] fYes := by
  refine ⟨fun pins s σ H Q I h => pts_nil.run pins s σ H Q I ?_⟩
  obtain ⟨Z, ρ, Fs, b, ρ', rel, hf, q⟩ := h
  cases hf
  exact q H Z Fs rel (Frm.refl _)
theorem ptsv_one (h : PTV X T c ft) : PTsV X T [c] ft := pts_one h
theorem backE_wipe {ρ0 ρ : Env} (hl : ρ.length = ρ0.length) (vs : List Nat) : backE ρ0 (wipeE ρ vs) vs = backE ρ0 ρ vs := by
  refine List.ext_getElem? fun i => ?_
  by_cases q : i ∈ vs
  · rw [backE_in (by rw [wipeE_length]; exact hl) q, backE_in hl q]
  · rw [backE_out q, backE_out q, wipeE_out q]
/-- within a comprehension: the new list is DD -/
structure BK (K : PySem.W.Frag) (Tl : List Nat) (Z1 : Addr → Prop) (ρ1 : Env) (Fs1 : Ft) (H1 : Hp) (DD : Addr) (acc : List D) (Z : Addr → Prop) (ρ : Env) (Fs : Ft) (H : Hp) (τ : L2.St) : Prop where
  rel : Rel K Z ρ τ H Fs
  frm : Frm Tl Z1 ρ1 Fs1 H1 Z ρ Fs H
  val : ∃ F, Val K Z H Fs [] true (.lst true acc) (.ref DD) F ∧ Cf Tl Fs1 H1 true F
section
variable {K : PySem.W.Frag} {Z Z' Z1 Z2 : Addr → Prop} {ρ ρ' ρ1 ρ2 : Env} {Fs Fs' Fs1 Fs2 : Ft} {H H' H1 H2 : Hp} {Tl T' : List Nat} {d : D} {v : V} {σ τ τ' : L2.St} {DD : Addr} {acc : List D}
theorem BK.step (b : BK K Tl Z1 ρ1 Fs1 H1 DD acc Z ρ Fs H τ) (rel : Rel K Z' ρ' τ' H' Fs') (f : Frm T' Z ρ Fs H Z' ρ' Fs' H') (hT : ∀ j ∈ T', j ∈ Tl) : BK K Tl Z1 ρ1 Fs1 H1 DD acc Z' ρ' Fs' H' τ' := by
  obtain ⟨F, w, c⟩ := b.val
  exact ⟨rel, (b.frm.trans f).mono fun j hj => (List.mem_append.mp hj).elim id (hT j), F, w.keep b.rel f (by simp [safe]), c⟩
theorem BK.keep0 (b : BK K Tl Z1 ρ1 Fs1 H1 DD acc Z ρ Fs H τ) (k : Keep M0 H H') : BK K Tl Z1 ρ1 Fs1 H1 DD acc Z ρ Fs H' τ := b.step (b.rel.keep0 k) (Frm.pure k) fun _ h => (by cases h)
theorem BK.wipe (b : BK K Tl Z1 ρ1 Fs1 H1 DD acc Z ρ Fs H τ) (vs : List Nat) (hl : τ'.length = τ.length) (h : ∀ i, i ∉ vs → τ'[i]? = τ[i]?) (hv : ∀ j ∈ vs, j ∈ Tl) : BK K Tl Z1 ρ1 Fs1 H1 DD acc Z (wipeE ρ vs) (dropF Fs vs) H τ' := by
  obtain ⟨F, w, c⟩ := b.val
  exact ⟨b.rel.wipe vs hl h, (b.frm.trans (Frm.wipe vs)).mono fun j hj => (List.mem_append.mp hj).elim id (hv j), F, w.wipe, c⟩
theorem BK.app {G : List Addr} (b : BK K Tl Z1 ρ1 Fs1 H1 DD acc Z ρ Fs H τ) (rel : Rel K Z' ρ' τ' H' Fs') (f : Frm T' Z ρ Fs H Z' ρ' Fs' H') (hT : ∀ j ∈ T', j ∈ Tl) (w2 : Val K Z' H' Fs' [] true d v G) (c2 : Cf T' Fs H true G) (hD : H1 DD = none) :
    ∃ vacc, H' DD = some (.lst vacc) ∧ vacc.length = acc.length ∧ BK K Tl Z1 ρ1 Fs1 H1 DD (acc ++ [d]) Z' ρ' Fs' (upd H' DD (.lst (vacc ++ [v]))) τ' := by
  obtain ⟨F, w, c⟩ := b.val
  have b2 := b.step rel f hT
  have w' := w.keep b.rel f (by simp [safe])
  have hdj : ∀ a ∈ F, a ∉ G := fun a ha hG => by
    rcases c2 rfl a hG with ⟨j, hj, q⟩ | q
    · exact absurd (w.ori j a ha q) (by simp)
    · exact w.r.tr a ha q
  obtain ⟨vacc, F0, h1, h2, h3, h4, h5⟩ := w'.app w2 hdj
  refine ⟨vacc, h1, h2, rel.wr h1 trivial (fun j h => absurd (w'.ori j DD h4 h) (by simp)) ((w'.exc rfl).2 DD h4), b2.frm.wr hD h1 trivial, _, h3, fun hx a ha => ?_⟩
  rcases List.mem_cons.mp ha with e | ha
  · exact .inr (by rw [e]; exact hD)
  · rcases List.mem_append.mp ha with ha | ha
    · exact c rfl a (h5 a ha)
    · exact ((Cf.late b.frm c2).mono fun j hj => (List.mem_append.mp hj).elim id (hT j)) rfl a ha
end
theorem tv_comp (vs : List Nat) (hW : Wg.all (fun i => vs.contains i) = true) (ho : O.all (fun i => !(vs ++ (Tg ++ (Tt ++ Te))).contains i) = true) {σ : L2.St} {H : Hp} {Q : VK} (h : tV X.K (T ++ ((vs ++ (Tg ++ (Tt ++ Te))) ++ vs)) [] true (fComp vs fi g ft fe) σ H Q) :
    tLc (tVI X.K T O fi) (tVG X.K Wg Tg g) (tVT X.K Tt ft) (tV X.K Te [] true fe) vs σ H Q := by
  obtain ⟨Z, ρ, Fs, d, ρ', rel, hf, q⟩ := h
  unfold fComp at hf
  obtain ⟨⟨items, ρ1⟩, h1, hf⟩ := Option.bind_eq_some_iff.mp hf
  split at hf
  · rename_i hok
    obtain ⟨⟨res, ρ2⟩, h2, hf⟩ := Option.bind_eq_some_iff.mp hf
    cases hf
    refine ⟨Z, ρ, Fs, items, ρ1, rel, h1, fun J H1 Z1 Fs1 A G Y rel1 f1 wk hA stay DD hDD => ?_⟩
    have inTl : ∀ {j}, j ∈ vs ∨ j ∈ Tg ∨ j ∈ Tt ∨ j ∈ Te → j ∈ vs ++ (Tg ++ (Tt ++ Te)) := fun {j} h => by
      rcases h with h | h | h | h
      · exact List.mem_append_left _ h
      · exact List.mem_append_right _ (List.mem_append_left _ h)
      · exact List.mem_append_right _ (List.mem_append_right _ (List.mem_append_left _ h))
      · exact List.mem_append_right _ (List.mem_append_right _ (List.mem_append_right _ h))
    generalize hTl : vs ++ (Tg ++ (Tt ++ Te)) = Tl at q ho inTl
    have far : ∀ a ∈ A, ¬ ∃ j ∈ Tl, a ∈ Fs1 j := fun a ha ⟨j, hj, hf⟩ => by
      have z := List.all_eq_true.mp ho j (hA j a ha hf)
      simp only [Bool.not_eq_true', List.contains_eq_mem, decide_eq_false_iff_not] at z
      exact z hj
    have znot : ∀ a, Z1 a → ¬ ∃ j ∈ Tl, a ∈ Fs1 j := fun a z ⟨j, _, ha⟩ => rel1.nz j a ha z
    have k0 : Keep M0 H1 (upd H1 DD (.lst [])) := Keep.new hDD
    have inW : ∀ j ∈ Wg, j ∈ vs := fun j hj => by simpa using List.all_eq_true.mp hW j hj
    have b0 : BK X.K Tl Z1 ρ1 Fs1 H1 DD [] Z1 (wipeE ρ1 vs) (dropF Fs1 vs) (upd H1 DD (.lst [])) (wipe σ vs) := by
      have b : BK X.K Tl Z1 ρ1 Fs1 H1 DD [] Z1 ρ1 Fs1 (upd H1 DD (.lst [])) σ := by
        refine ⟨rel1.keep0 k0, Frm.pureT _ k0, [DD], ⟨.own upd_same .nil, fun j a h1 h2 => ?_, fun _ => ⟨by simp, fun a ha z => ?_⟩⟩, fun _ a ha => .inr ?_⟩
        · have e : a = DD := by simpa using h1
          exact absurd hDD (by rw [← e]; exact rel1.ft j a h2)
        · have e : a = DD := by simpa using ha
          exact rel1.zt a z (by rw [e]; exact hDD)
        · have e : a = DD := by simpa using ha
          rw [e]; exact hDD
      exact b.wipe vs (wipe_length _ _) (fun i hi => wipe_out' hi) fun j hj => inTl (.inl hj)
    refine lc_it wk (vs := vs) (fun i Hi => ∃ Zi ρi Fsi acc, BK X.K Tl Z1 ρ1 Fs1 H1 DD acc Zi (wipeE ρi vs) Fsi Hi (wipe σ vs) ∧ ρi.length = ρ1.length ∧ compL vs g ft fe (items.drop i) ρi acc = some (res, ρ2)) ?_ ?_ ?_ ?_
    · exact ⟨Z1, ρ1, _, [], b0, rfl, by rw [List.drop_zero]; exact h2⟩
    · intro i Hi hi ⟨Zi, ρi, Fsi, acc, b, hl, hc⟩
      exact (stay _ Zi Hi b.frm.keep far znot b.frm.zz).1
    · intro i v Hi H' hi ⟨Zi, ρi, Fsi, acc, b, hl, hc⟩ y
      have hd : items[i]? = some items[i] := List.getElem?_eq_getElem hi
      obtain ⟨k, rv⟩ := (stay _ Zi Hi b.frm.keep far znot b.frm.zz).2 i v H' _ y hd
      rw [List.drop_eq_getElem_cons hi] at hc
      obtain ⟨ρg, hg1, hc⟩ := Option.bind_eq_some_iff.mp hc
      obtain ⟨⟨bt, ρt⟩, ht1, hc⟩ := Option.bind_eq_some_iff.mp hc
      have b1 := b.keep0 k
      refine ⟨Zi, wipeE ρi vs, Fsi, items[i], ρg, b1.rel, rv, hg1, fun σ2 H2 Z2 Fs2 fn2 => ⟨?_, ?_⟩⟩
      · refine wipe_eq (by rw [fn2.sl, wipe_length]) fun j hj => ?_
        rw [fn2.sg j fun z => hj (inW j z), wipe_out' hj]
      · have b2 := b1.step fn2.rel fn2.frm fun j hj => inTl (.inr (.inl hj))
        have outs2 : ∀ j, j ∉ vs → (wipe σ vs)[j]? = σ2[j]? := fun j hj => (fn2.sg j fun z => hj (inW j z)).symm
        refine ⟨Z2, ρg, Fs2, bt, ρt, fn2.rel, ht1, fun H3 Z3 Fs3 rel3 f3 => ?_⟩
        have b3 := b2.step rel3 f3 fun j hj => inTl (.inr (.inr (.inl hj)))
        cases bt with
        | false =>
          refine iteF ?_
          rw [if_neg Bool.false_ne_true] at hc
          refine ⟨Z3, ρt, _, acc, b3.wipe vs (by rw [fn2.sl]) outs2 fun j hj => inTl (.inl hj), b3.frm.len, hc⟩
        | true =>
          refine iteT ?_
          rw [if_pos rfl] at hc
          obtain ⟨⟨de, ρe⟩, he1, hc⟩ := Option.bind_eq_some_iff.mp hc
          split at hc
          · rename_i hz
            refine ⟨Z3, ρt, Fs3, de, ρe, rel3, he1, fun v4 H4 Z4 Fs4 F4 rel4 f4 w4 c4 => ?_⟩
            obtain ⟨vacc, hv1, hv2, b4⟩ := b3.app rel4 f4 (fun j hj => inTl (.inr (.inr (.inr hj)))) w4 c4 hDD
            exact ⟨vacc, hv1, by rw [hv2]; exact sz_lt hz, Z4, ρe, _, _, b4.wipe vs (by rw [fn2.sl]) outs2 fun j hj => inTl (.inl hj), b4.frm.len, hc⟩
          · cases hc
    · intro Hi ⟨Zi, ρi, Fsi, acc, b, hl, hc⟩
      rw [List.drop_length] at hc
      cases hc
      obtain ⟨F, w, c⟩ := b.val
      have rb := Rel.back rel1 hok b.rel b.frm
      have fb := Frm.back (vs := vs) b.frm
      rw [backE_wipe hl] at rb fb
      exact q (.ref DD) Hi Zi _ F rb (f1.trans fb) w.wipe (Cf.late f1 (c.mono fun j hj => List.mem_append_left _ hj))
  · cases hf
theorem pev_lc {scope : Scope} {own : List (Str × Nat)} (hc : X.calm = true) (hN : X.N.Nodup) (hi : PIV X T O tg iter fi) (ok : BlkOk X.N X.env.scope scope own)
    (hg : ∀ (s : Shared) (H : Hp) (C : Addr) (cl : List (Str × Addr)) (fp : List Addr), PGV (X.blk s H scope (compEnvC scope cl C X.env) fp) Wg Tg tg g) (ht : ∀ (s : Shared) (H : Hp) (C : Addr) (cl : List (Str × Addr)) (fp : List Addr), PTsV (X.blk s H scope (compEnvC scope cl C X.env) fp) Tt ifs ft)
    (he : ∀ (s : Shared) (H : Hp) (C : Addr) (cl : List (Str × Addr)) (fp : List Addr), PEV (X.blk s H scope (compEnvC scope cl C X.env) fp) Te [] true elt fe) (hW : Wg.all (fun i => (own.map (·.2)).contains i) = true := by rfl) (ho : O.all (fun i => !((own.map (·.2)) ++ (Tg ++ (Tt ++ Te))).contains i) = true := by rfl)
    (hs : ∀ x, foldedSetIterable iter X.env x = pure x := by intro _; rfl) :
    PEV X (T ++ (((own.map (·.2)) ++ (Tg ++ (Tt ++ Te))) ++ (own.map (·.2)))) [] true (.ListComp elt [⟨tg, iter, ifs, 0⟩] scope pos) (fComp (own.map (·.2)) fi g ft fe) :=
  PE.imp (pe_lc hc hN hi ok hg ht he hs) fun σ H Q h => tv_comp _ hW ho h
theorem psv_setLc (i : Nat) {y : Str} {py spos : Pos} {scope : Scope} {own : List (Str × Nat)} (hc : X.calm = true) (hN : X.N.Nodup) (hsw : swapsWith (.ListComp elt [⟨tg, iter, ifs, 0⟩] scope pos) (some (.Name y py)) spos.line X.env = pure true) (hi : PIV X T O tg iter fi) (ok : BlkOk X.N X.env.scope scope own)
    (hg : ∀ (s : Shared) (H : Hp) (C : Addr) (cl : List (Str × Addr)) (fp : List Addr), PGV (X.blk s H scope (compEnvC scope cl C X.env) fp) Wg Tg tg g) (ht : ∀ (s : Shared) (H : Hp) (C : Addr) (cl : List (Str × Addr)) (fp : List Addr), PTsV (X.blk s H scope (compEnvC scope cl C X.env) fp) Tt ifs ft)
    (he : ∀ (s : Shared) (H : Hp) (C : Addr) (cl : List (Str × Addr)) (fp : List Addr), PEV (X.blk s H scope (compEnvC scope cl C X.env) fp) Te [] true elt fe) (hy : X.N[i]? = some y := by rfl) (hyl : X.env.scope.names.lookup y = some .local := by rfl)
    (hW : Wg.all (fun i => (own.map (·.2)).contains i) = true := by rfl) (ho : O.all (fun i => !((own.map (·.2)) ++ (Tg ++ (Tt ++ Te))).contains i) = true := by rfl)
    (hs : ∀ x, foldedSetIterable iter X.env x = pure x := by intro _; rfl) :
    PSV X [i] (i :: (T ++ (((own.map (·.2)) ++ (Tg ++ (Tt ++ Te))) ++ (own.map (·.2))))) (.Assign [.Name y py] (.ListComp elt [⟨tg, iter, ifs, 0⟩] scope pos) spos) (sSet i (fComp (own.map (·.2)) fi g ft fe)) := by
  refine PS.imp (ps_setLc (g := tVG X.K Wg Tg g) (tt := tVT X.K Tt ft) (te := tV X.K Te [] true fe) hc hN hy hyl hsw hi ok hg ht he hs) fun D σ H h => ?_
  obtain ⟨Z, ρ, Fs, r, rel, hf, h1, h2, h3, h4⟩ := h
  unfold sSet at hf
  obtain ⟨⟨d, ρ1⟩, hp, hf⟩ := Option.bind_eq_some_iff.mp hf
  cases hf
  exact tv_comp _ hW ho ⟨Z, ρ, Fs, d, ρ1, rel, hp, fun v H' Z' Fs' F rel' f' w c => h1 _ rfl _ _ _ _ (Fin.put rel' f' w c)⟩
end
end Vl

namespace Vl
open PySem PySem.Spec PyProof.Rows L2

/-! ### data as the kit's deep data: == -/
mutual
def D.toP : D → PyData
  | .non => .none
  | .bl b => .bool b
  | .int i => .int i
  | .str s => .str s
  | .tup l => .tuple (D.toPL l)
  | .lst _ l => .list (D.toPL l)
  | .dct _ _ _ => .dict []
  | .scr l => .list (D.toPL l)
def D.toPL : List D → List PyData
  | [] => []
  | d :: r => d.toP :: D.toPL r
end
mutual
/-- no dict within, texts of true signs -/
def D.eok : D → Bool
  | .non => true
  | .bl _ => true
  | .int _ => true
  | .str s => PyData.strOk s
  | .tup l => D.eokL l
  | .lst _ l => D.eokL l
  | .dct _ _ _ => false
  | .scr l => D.eokL l
def D.eokL : List D → Bool
  | [] => true
  | d :: r => d.eok && D.eokL r
end
mutual
def D.dep : D → Nat
  | .non => 0
  | .bl _ => 0
  | .int _ => 0
  | .str _ => 0
  | .tup l => D.depL l + 1
  | .lst _ l => D.depL l + 1
  | .dct _ _ _ => 1
  | .scr l => D.depL l + 1
def D.depL : List D → Nat
  | [] => 0
  | d :: r => max d.dep (D.depL r)
end
mutual
theorem D.canLay : ∀ {d : D}, d.eok = true → d.toP.canLay0 = true
  | .non, _ => by simp [D.toP, PyData.canLay0]
  | .bl _, _ => by simp [D.toP, PyData.canLay0]
  | .int _, _ => by simp [D.toP, PyData.canLay0]
  | .str s, h => by simpa [D.toP, PyData.canLay0, D.eok] using h
  | .tup l, h => by
    have h : D.eokL l = true := by simpa [D.eok] using h
    simpa [D.toP, PyData.canLay0] using D.canLayL h
  | .lst _ l, h => by
    have h : D.eokL l = true := by simpa [D.eok] using h
    simpa [D.toP, PyData.canLay0] using D.canLayL h
  | .dct _ _ _, h => by simp [D.eok] at h
  | .scr l, h => by
    have h : D.eokL l = true := by simpa [D.eok] using h
    simpa [D.toP, PyData.canLay0] using D.canLayL h
theorem D.canLayL : ∀ {l : List D}, D.eokL l = true → PyData.canLayAll0 (D.toPL l) = true
  | [], _ => by simp [D.toPL, PyData.canLayAll0]
  | d :: r, h => by
    have h : (d.eok && D.eokL r) = true := h
    rw [Bool.and_eq_true] at h
    simp only [D.toPL, PyData.canLayAll0, D.canLay h.1, D.canLayL h.2, Bool.and_self]
end
mutual
theorem D.depthP : ∀ d : D, d.toP.depth = d.dep
  | .non => by simp [D.toP, D.dep, PyData.depth]
  | .bl _ => by simp [D.toP, D.dep, PyData.depth]
  | .int _ => by simp [D.toP, D.dep, PyData.depth]
  | .str _ => by simp [D.toP, D.dep, PyData.depth]
  | .tup l => by simp only [D.toP, D.dep, PyData.depth, D.depthPL l]
  | .lst _ l => by simp only [D.toP, D.dep, PyData.depth, D.depthPL l]
  | .dct _ _ _ => by simp [D.toP, D.dep, PyData.depth, PyData.depthKv]
  | .scr l => by simp only [D.toP, D.dep, PyData.depth, D.depthPL l]
theorem D.depthPL : ∀ l : List D, PyData.depthAll (D.toPL l) = D.depL l
  | [] => by simp [D.toPL, D.depL, PyData.depthAll]
  | d :: r => by simp only [D.toPL, D.depL, PyData.depthAll, D.depthP d, D.depthPL r]
end
def eqOk (d : D) : Bool := d.eok && decide (d.dep ≤ 60)
theorem eqOk.shaped {d : D} (h : eqOk d = true) : SeqAt.shaped d.toP = true := by
  unfold eqOk at h
  rw [Bool.and_eq_true] at h
  unfold SeqAt.shaped
  rw [D.canLay h.1, D.depthP]
  have := of_decide_eq_true h.2
  simp
  omega
def pyEq (d e : D) : Bool := PyData.eqv d.toP e.toP
section
variable {K : PySem.W.Frag} {Z : Addr → Prop} {H : Hp}
mutual
theorem R.dp : ∀ {d : D} {v : V} {F : List Addr}, R K Z H d v F → d.eok = true → Dp K H v d.toP
  | _, _, _, .non, _ => .non
  | _, _, _, .bl b, _ => .bl b
  | _, _, _, .int i, _ => .int i
  | _, _, _, .str s, _ => .str s
  | _, _, _, .tup h r, e => .tup h (Rs.dp r (by simpa [D.eok] using e))
  | _, _, _, .own h r, e => .lst (SqL.of h) (Rs.dp r (by simpa [D.eok] using e))
  | _, _, _, .fzn h z r, e => .lst (SqL.of h) (Rs.dp r (by simpa [D.eok] using e))
  | _, _, _, .knw h r, e => .lst h.l (Rs.dp r (by simpa [D.eok] using e))
  | _, _, _, .dow h r, e => by simp [D.eok] at e
  | _, _, _, .dfz h z r, e => by simp [D.eok] at e
  | _, _, _, .dlk h r, e => by simp [D.eok] at e
theorem Rs.dp : ∀ {ds : List D} {vs : List V} {F : List Addr}, Rs K Z H ds vs F → D.eokL ds = true → DpAll K H vs (D.toPL ds)
  | _, _, _, .nil, _ => .nil
  | _, _, _, .cons r rs, h => by
    have h : (D.eok _ && D.eokL _) = true := h
    rw [Bool.and_eq_true] at h
    exact .cons (R.dp r h.1) (Rs.dp rs h.2)
end
end
def gEq (d e : D) : Option D := if (eqOk d && eqOk e) = true then some (.bl (pyEq d e)) else none
def gNe (d e : D) : Option D := if (eqOk d && eqOk e) = true then some (.bl (!pyEq d e)) else none
theorem eqOk.eok {d : D} (h : eqOk d = true) : d.eok = true := by
  unfold eqOk at h
  rw [Bool.and_eq_true] at h
  exact h.1
/-- an answer that makes nothing -/
theorem OpS.here {K : PySem.W.Frag} {r : R2} {g : D → D → Option D} (h : ∀ (Z : Addr → Prop) (H : Hp) (d1 d2 : D) (v1 v2 : V) (F1 F2 : List Addr) (d : D) (Q : VK), R K Z H d1 v1 F1 → R K Z H d2 v2 F2 → g d1 d2 = some d → (∀ v, R K Z H d v [] → Q v H) → r v1 v2 H Q) : OpS K r g :=
  fun Z H d1 d2 v1 v2 F1 F2 d Q r1 r2 hg q => h Z H d1 d2 v1 v2 F1 F2 d Q r1 r2 hg fun v rv => q v H [] (Keep.refl _ _) rv List.nodup_nil fun _ h => (by cases h)
theorem os_eq {K : PySem.W.Frag} : OpS K (rEqD K) gEq := OpS.here fun Z H d1 d2 v1 v2 F1 F2 d Q r1 r2 hg q => by
  unfold gEq at hg
  split at hg
  · rename_i h
    cases hg
    rw [Bool.and_eq_true] at h
    exact ⟨d1.toP, d2.toP, r1.dp (eqOk.eok h.1), r2.dp (eqOk.eok h.2), eqOk.shaped h.1, eqOk.shaped h.2, q _ (.bl _)⟩
  · cases hg
theorem os_ne {K : PySem.W.Frag} : OpS K (rNeD K) gNe := OpS.here fun Z H d1 d2 v1 v2 F1 F2 d Q r1 r2 hg q => by
  unfold gNe at hg
  split at hg
  · rename_i h
    cases hg
    rw [Bool.and_eq_true] at h
    exact ⟨d1.toP, d2.toP, r1.dp (eqOk.eok h.1), r2.dp (eqOk.eok h.2), eqOk.shaped h.1, eqOk.shaped h.2, q _ (.bl _)⟩
  · cases hg

/-! ### ints -/
def gI (f : Int → Int → D) (d e : D) : Option D := match d, e with
  | .int i, .int j => some (f i j)
  | _, _ => none
def gIc (c : Int → Int → Bool) (f : Int → Int → D) (d e : D) : Option D := match d, e with
  | .int i, .int j => if c i j = true then some (f i j) else none
  | _, _ => none
theorem R.ints {K : PySem.W.Frag} {Z : Addr → Prop} {H : Hp} {d : D} {v : V} {F : List Addr} {i : Int} (r : R K Z H d v F) (e : d = .int i) : v = .int i := by
  subst e
  exact r.int_inv
theorem os_I {K : PySem.W.Frag} {f : Int → Int → Int} : OpS K (rI0 fun i j => .int (f i j)) (gI fun i j => .int (f i j)) := OpS.here fun Z H d1 d2 v1 v2 F1 F2 d Q r1 r2 hg q => by
  unfold gI at hg
  split at hg
  · cases hg
    exact ⟨_, _, r1.int_inv, r2.int_inv, q _ (.int _)⟩
  · cases hg
theorem os_B {K : PySem.W.Frag} {f : Int → Int → Bool} : OpS K (rI0 fun i j => .bl (f i j)) (gI fun i j => .bl (f i j)) := OpS.here fun Z H d1 d2 v1 v2 F1 F2 d Q r1 r2 hg q => by
  unfold gI at hg
  split at hg
  · cases hg
    exact ⟨_, _, r1.int_inv, r2.int_inv, q _ (.bl _)⟩
  · cases hg
theorem os_Ic {K : PySem.W.Frag} {C : Int → Int → Prop} {c : Int → Int → Bool} {f : Int → Int → Int} (h : ∀ i j, c i j = true → C i j) : OpS K (rI C fun i j => .int (f i j)) (gIc c fun i j => .int (f i j)) := OpS.here fun Z H d1 d2 v1 v2 F1 F2 d Q r1 r2 hg q => by
  unfold gIc at hg
  split at hg
  · split at hg
    · rename_i hc
      cases hg
      exact ⟨_, _, r1.int_inv, r2.int_inv, h _ _ hc, q _ (.int _)⟩
    · cases hg
  · cases hg
def gLt : D → D → Option D := gI fun i j => .bl (decide (i < j))
def gLe : D → D → Option D := gI fun i j => .bl (decide (i ≤ j))
def gGt : D → D → Option D := gI fun i j => .bl (decide (j < i))
def gGe : D → D → Option D := gI fun i j => .bl (decide (j ≤ i))
def gSub : D → D → Option D := gI fun i j => .int (i - j)
def bitsOk (i : Int) : Bool := decide (i.natAbs < 2 ^ 400000)
def cMul (i j : Int) : Bool := decide (i.natAbs < 2 ^ 63) || decide (j.natAbs < 2 ^ 63) || (bitsOk i && bitsOk j)
def cMod (_ j : Int) : Bool := decide (j ≠ 0)
def cDiv (_ j : Int) : Bool := decide (j ≠ 0) && decide (j.natAbs < 2 ^ 8000)
/-- // by a divisor below 2 ^ 8000, either way -/
def CDivL (_ j : Int) : Prop := j ≠ 0 ∧ j.natAbs < 2 ^ 8000
theorem op_fdivL {X : Cx} : OpR X (binaryOp .FloorDiv) (rI CDivL fun i j => .int (i.fdiv j)) := opI fun _ _ _ _ _ _ _ hc q =>
  floordiv_int hc.1 q (.inl (PyProof.noPylong_of_log2 (Nat.lt_of_lt_of_le (PySem.Flt.log2_lt_of (by decide) hc.2) (by decide))))
def cPow (i j : Int) : Bool := decide (0 ≤ j) && decide (j ≤ 1000000) && decide (i.natAbs < 2 ^ 64)
def CMulV (i j : Int) : Prop := CMul i j ∨ CMulW i j
theorem cMul_ok {i j : Int} (h : cMul i j = true) : CMulV i j := by
  unfold cMul at h
  rw [Bool.or_eq_true, Bool.or_eq_true] at h
  have z : ∀ {k : Int}, decide (k.natAbs < 2 ^ 63) = true → -(2 ^ 64) < k ∧ k < 2 ^ 64 := fun {k} h => by
    have := of_decide_eq_true h
    omega
  rcases h with (h | h) | h
  · exact .inl (.inl (z h))
  · exact .inl (.inr (z h))
  · rw [Bool.and_eq_true] at h
    exact .inr (wide_mul (of_decide_eq_true h.1) (of_decide_eq_true h.2) (by decide) (by decide) (by decide))
theorem op_mulV {X : Cx} : OpR X (binaryOp .Mult) (rI CMulV fun i j => .int (i * j)) := opI fun _ _ _ _ _ _ _ hc q => mul_int q (hc.elim CMul.ok CMulW.ok)
theorem iop_mulV {X : Cx} : OpR X (inplaceOp .Mult) (rI CMulV fun i j => .int (i * j)) := opI fun _ _ _ _ _ _ _ hc q => imul_int q (hc.elim CMul.ok CMulW.ok)
def gMulI : D → D → Option D := gIc cMul fun i j => .int (i * j)
def gMod : D → D → Option D := gIc cMod fun i j => .int (i.fmod j)
def gDiv : D → D → Option D := gIc cDiv fun i j => .int (i.fdiv j)
def gPow : D → D → Option D := gIc cPow fun i j => .int (i ^ j.toNat)
theorem os_mulI {K : PySem.W.Frag} : OpS K (rI CMulV fun i j => .int (i * j)) gMulI := os_Ic fun _ _ h => cMul_ok h
theorem os_mod {K : PySem.W.Frag} : OpS K (rI (fun _ j => j ≠ 0) fun i j => .int (i.fmod j)) gMod := os_Ic fun _ _ h => of_decide_eq_true h
theorem os_div {K : PySem.W.Frag} : OpS K (rI CDivL fun i j => .int (i.fdiv j)) gDiv := os_Ic fun _ _ h => by
  unfold cDiv at h
  rw [Bool.and_eq_true] at h
  exact ⟨of_decide_eq_true h.1, of_decide_eq_true h.2⟩
theorem os_pow {K : PySem.W.Frag} : OpS K (rI CPow fun i j => .int (i ^ j.toNat)) gPow := os_Ic fun _ _ h => by
  unfold cPow at h
  rw [Bool.and_eq_true, Bool.and_eq_true] at h
  have := of_decide_eq_true h.2
  exact ⟨of_decide_eq_true h.1.1, of_decide_eq_true h.1.2, this⟩
def gNeg : D → Option D
  | .int i => some (.int (-i))
  | _ => none
theorem us_neg {K : PySem.W.Frag} : UnS K (rU fun i => .int (-i)) gNeg := fun Z H d1 v1 F1 d Q r1 hg q => by
  unfold gNeg at hg
  split at hg
  · cases hg
    exact ⟨_, r1.int_inv, q _ H [] (Keep.refl _ _) (.int _) List.nodup_nil fun _ h => (by cases h)⟩
  · cases hg

/-! ### + -/
def rAddStr : R2 := fun x y H Q => ∃ i j, x = .str i ∧ y = .str j ∧ i.length + j.length ≤ sizeLine ∧ Q (.str (i ++ j)) H
abbrev rAddV (K : PySem.W.Frag) : R2 := fun x y H Q => (rI0 fun i j => .int (i + j)) x y H Q ∨ ((rCatA K) x y H Q ∨ (rCat x y H Q ∨ rAddStr x y H Q))
theorem op_addV {X : Cx} : OpR X (binaryOp .Add) (rAddV X.K) := op_add.or (op_catA.or (op_cat.or op_add_str))
def gAdd (d e : D) : Option D := match d, e with
  | .int i, .int j => some (.int (i + j))
  | .tup a, .tup b => if (szOk (a.length + b.length) && D.noOwnL a && D.noOwnL b) = true then some (.tup (a ++ b)) else none
  | .lst _ a, .lst _ b => if (szOk (a.length + b.length) && D.noOwnL a && D.noOwnL b) = true then some (.lst true (a ++ b)) else none
  | .str a, .str b => if szOk (a.length + b.length) = true then some (.str (a ++ b)) else none
  | _, _ => none
theorem R.lst_tr {K : PySem.W.Frag} {Z : Addr → Prop} {H : Hp} {o : Bool} {ds : List D} {v : V} {F : List Addr} (r : R K Z H (.lst o ds) v F) : ∃ a vs G, v = .ref a ∧ H a = some (.lst vs) ∧ Rs K Z H ds vs G := by
  cases r with
  | own h rs => exact ⟨_, _, _, rfl, h, rs⟩
  | fzn h z rs => exact ⟨_, _, _, rfl, h, rs⟩
theorem R.own_inv {K : PySem.W.Frag} {Z : Addr → Prop} {H : Hp} {ds : List D} {v : V} {F : List Addr} (r : R K Z H (.lst true ds) v F) : ∃ a vs G, v = .ref a ∧ F = a :: G ∧ H a = some (.lst vs) ∧ Rs K Z H ds vs G := by
  cases r with
  | own h rs => exact ⟨_, _, _, rfl, rfl, h, rs⟩
theorem Rs.keep0 {K : PySem.W.Frag} {Z : Addr → Prop} {H H' : Hp} {ds : List D} {vs : List V} {F : List Addr} (r : Rs K Z H ds vs F) (k : Keep M0 H H') : Rs K Z H' ds vs F := r.keep k (fun _ h => h) (fun _ _ h => h) fun _ _ h => h
theorem R.keep0 {K : PySem.W.Frag} {Z : Addr → Prop} {H H' : Hp} {d : D} {v : V} {F : List Addr} (r : R K Z H d v F) (k : Keep M0 H H') : R K Z H' d v F := r.keep k (fun _ h => h) (fun _ _ h => h) fun _ _ h => h
/-- a new list of shared items -/
theorem new_list {K : PySem.W.Frag} {Z : Addr → Prop} {H : Hp} {ds : List D} {vs : List V} {Q : VK} {p : Addr} (hp : H p = none) (rs : Rs K Z H ds vs []) (q : ∀ v H' F, Keep M0 H H' → R K Z H' (.lst true ds) v F → F.Nodup → (∀ a ∈ F, H a = none) → Q v H') : Q (.ref p) (upd H p (.lst vs)) := by
  have k : Keep M0 H (upd H p (.lst vs)) := Keep.new hp
  refine q _ _ [p] k (.own upd_same (rs.keep0 k)) (by simp) fun a ha => ?_
  have e : a = p := by simpa using ha
  rw [e]
  exact hp
theorem new_tup {K : PySem.W.Frag} {Z : Addr → Prop} {H : Hp} {ds : List D} {vs : List V} {Q : VK} {p : Addr} (hp : H p = none) (rs : Rs K Z H ds vs []) (q : ∀ v H' F, Keep M0 H H' → R K Z H' (.tup ds) v F → F.Nodup → (∀ a ∈ F, H a = none) → Q v H') : Q (.ref p) (upd H p (.tup vs)) := by
  have k : Keep M0 H (upd H p (.tup vs)) := Keep.new hp
  exact q _ _ [] k (.tup (SqT.of upd_same) (rs.keep0 k)) List.nodup_nil fun a ha => (by cases ha)
theorem same_val {K : PySem.W.Frag} {Z : Addr → Prop} {H : Hp} {d : D} {v : V} {Q : VK} (r : R K Z H d v []) (q : ∀ v H' F, Keep M0 H H' → R K Z H' d v F → F.Nodup → (∀ a ∈ F, H a = none) → Q v H') : Q v H :=
  q v H [] (Keep.refl _ _) r List.nodup_nil fun _ h => (by cases h)
theorem os_add {K : PySem.W.Frag} : OpS K (rAddV K) gAdd := fun Z H d1 d2 v1 v2 F1 F2 d Q r1 r2 hg q => by
  unfold gAdd at hg
  split at hg
  · cases hg
    exact .inl ⟨_, _, r1.int_inv, r2.int_inv, same_val (.int _) q⟩
  · split at hg
    · rename_i h
      cases hg
      rw [Bool.and_eq_true, Bool.and_eq_true] at h
      obtain ⟨a, vs, rfl, ha, ra⟩ := r1.tup_inv
      obtain ⟨b, ws, rfl, hb, rb⟩ := r2.tup_inv
      have ra := ra.nil_of h.1.2
      have rb := rb.nil_of h.2
      refine .inr (.inl ⟨a, b, vs, ws, rfl, rfl, ha, hb, by rw [← ra.length, ← rb.length]; exact sz_of h.1.1, fun e => ?_, fun _ e => ?_, fun _ _ p hp => new_tup hp (ra.app rb) q⟩)
      · subst e
        have e2 := ra.length
        rw [List.length_nil] at e2
        rw [List.eq_nil_of_length_eq_zero e2, List.nil_append] at q
        exact same_val (.tup hb rb) q
      · subst e
        have e2 := rb.length
        rw [List.length_nil] at e2
        rw [List.eq_nil_of_length_eq_zero e2, List.append_nil] at q
        exact same_val (.tup ha ra) q
    · cases hg
  · split at hg
    · rename_i h
      cases hg
      rw [Bool.and_eq_true, Bool.and_eq_true] at h
      obtain ⟨a, vs, G, rfl, ha, ra⟩ := r1.lst_tr
      obtain ⟨b, ws, G2, rfl, hb, rb⟩ := r2.lst_tr
      have ra := ra.nil_of h.1.2
      have rb := rb.nil_of h.2
      exact .inr (.inr (.inl ⟨a, b, vs, ws, rfl, rfl, ha, hb, by rw [← ra.length, ← rb.length]; exact sz_of h.1.1, fun p hp => new_list hp (ra.app rb) q⟩))
    · cases hg
  · split at hg
    · rename_i h
      cases hg
      exact .inr (.inr (.inr ⟨_, _, r1.str_inv, r2.str_inv, sz_of h, same_val (.str _) q⟩))
    · cases hg
  · cases hg
end Vl

namespace Vl
open PySem PySem.Spec PyProof.Rows L2
theorem tuple_mulS (l : Addr) (items : Array Value) (n : Nat) (dd : Option Addr) (sl : Array (Option Value)) (x : Int) (u : Tok) (c0 : (decide (x < -(2 ^ 63)) || decide (x ≥ 2 ^ 63)) = false) (c1 : (items.isEmpty || x == 1) = true) :
    Meets (Builtin.«tuple.__mul__» ⟨[.ref l, .int x u], []⟩) (fun _ R s => s.heap.get? l = some { cls := .type "tuple", dict := dd, data := .seq items n, slots := sl } ∧ R (.ok (.ret (Value.ref l))) s) :=
  .of_wp fun prog w A R s h => by
    obtain ⟨hp, g, d, tk, os⟩ := s
    obtain ⟨hl, h⟩ := h
    have f1 := AutoSeq1.idx_int
    wp_walk using wpAny_loadPart' hl
    repeat (first
      | (refine wpAny_ite_false (decide_eq_false (by rw [c0]; exact Bool.false_ne_true)) ?_; wp_walk using wpAny_loadPart' hl)
      | (refine wpAny_ite_true (decide_eq_true (by rw [c1])) ?_; wp_walk using wpAny_loadPart' hl))
    exact ⟨_, rfl, h⟩
theorem tuple_mul0 (l : Addr) (items : Array Value) (n : Nat) (dd : Option Addr) (sl : Array (Option Value)) (x : Int) (u : Tok) (c0 : (decide (x < -(2 ^ 63)) || decide (x ≥ 2 ^ 63)) = false) (c1 : (items.isEmpty || x == 1) = false) (c2 : (decide (x ≤ 0) || items.isEmpty) = true) :
    Meets (Builtin.«tuple.__mul__» ⟨[.ref l, .int x u], []⟩) (fun _ R s => s.heap.get? l = some { cls := .type "tuple", dict := dd, data := .seq items n, slots := sl } ∧
      R (.ok (.ret (Value.ref s.heap.objs.size))) { s with heap := s.heap.push { cls := Value.type "tuple", data := Data.seq #[] }, toks := s.toks }) :=
  .of_wp fun prog w A R s h => by
    obtain ⟨hp, g, d, tk, os⟩ := s
    obtain ⟨hl, h⟩ := h
    have f1 := AutoSeq1.idx_int
    wp_walk using wpAny_loadPart' hl
    repeat (first
      | (refine wpAny_ite_false (decide_eq_false (by rw [c0]; exact Bool.false_ne_true)) ?_; wp_walk using wpAny_loadPart' hl)
      | (refine wpAny_ite_false (decide_eq_false (by rw [c1]; exact Bool.false_ne_true)) ?_; wp_walk using wpAny_loadPart' hl)
      | (refine wpAny_ite_true (decide_eq_true (by rw [c2])) ?_; wp_walk using wpAny_loadPart' hl))
    exact ⟨_, rfl, h⟩
/-- tuple * int, whatever the int -/
def rRepA (K : PySem.W.Frag) : R2 := fun x y H Q => ∃ l k xs, x = .ref l ∧ y = .int k ∧ SqT K H l xs ∧ -1000000 ≤ k ∧ k ≤ 1000000 ∧ xs.length * k.toNat ≤ 1000000 ∧
  ((xs = [] ∨ k = 1) → Q (.ref l) H) ∧ (¬ (xs = [] ∨ k = 1) → ∀ p, H p = none → Q (.ref p) (upd H p (.tup (List.replicate k.toNat xs).flatten)))
theorem op_repA {X : Cx} : OpR X (binaryOp .Mult) (rRepA X.K) := by
  intro pins s σ H x y v u Q I rx ry h
  obtain ⟨l, k, xs, rfl, rfl, hT, h1, h2, hz, q1, q2⟩ := h
  cases rx
  obtain ⟨t, rfl⟩ := ry
  obtain ⟨its, r, ⟨⟨cls, dd, data, sl⟩, ho, hc, n, hd⟩, hs⟩ := I.tuple hT
  simp only at hc hd
  subst hc hd
  have hle : its.length = xs.length := r.length.symm
  have hsz0 : its.toArray.size = xs.length := by rw [List.size_toArray, hle]
  have c0 : (decide (k < -(2 ^ 63)) || decide (k ≥ 2 ^ 63)) = false := by
    rw [decide_eq_false (by omega), decide_eq_false (by omega)] <;> rfl
  have emp : its.toArray.isEmpty = true ↔ xs = [] := by
    constructor
    · intro e
      have : its = [] := by simpa using e
      rw [this] at hle
      exact List.eq_nil_of_length_eq_zero hle.symm
    · intro e
      rw [e] at hle
      have : its = [] := List.eq_nil_of_length_eq_zero hle
      simp [this]
  refine wpAny_binaryOp_repeat_ref (T := "tuple") (U := "int") (by decide) ⟨_, ho, rfl⟩ (fun s' => typeIs_int s' k t) noFill_tuple_mul F.fills_int_mul F.slot_int_rmul repeat_tuple F.slot_int_index.lookup
    (call_meets F.slot_int_rmul (typeIs_int s k t) F.entry_int_rmul (F.args_int_rmul_2 _ _) (int_rmul_tuple k t l its.toArray n dd sl) ⟨ho, rfl, ⟨_, ho, rfl⟩, ?_⟩)
  by_cases hw : xs = [] ∨ k = 1
  · have c1 : (its.toArray.isEmpty || k == 1) = true := by
      rcases hw with e | e
      · rw [emp.mpr e]; rfl
      · rw [e]; simp
    exact call_meets F.slot_tuple_mul ⟨_, ho, rfl⟩ F.entry_tuple_mul (F.args_tuple_mul_2 _ _) (tuple_mulS l its.toArray n dd sl k t c0 c1) ⟨ho, ⟨.ref l, H, I, rfl, q1 hw⟩⟩
  · have hne : ¬ its.toArray.isEmpty = true := fun e => hw (.inl (emp.mp e))
    have hn1 : ¬ k = 1 := fun e => hw (.inr e)
    have he : its.toArray.isEmpty = false := by
      cases q : its.toArray.isEmpty with
      | true => exact absurd q hne
      | false => rfl
    have c1 : (its.toArray.isEmpty || k == 1) = false := by
      rw [he, Bool.false_or]
      exact beq_eq_false_iff_ne.mpr hn1
    have fin : ∀ ys : Array Value, ys = (List.replicate k.toNat its).flatten.toArray → EP X pins σ Q (.ref s.heap.objs.size) { s with heap := s.heap.push { cls := .type "tuple", data := .seq ys }, toks := s.toks } := fun ys e => by
      subst e
      refine ⟨.ref s.heap.objs.size, _, I.laid (t' := s.toks) (o := .tup (List.replicate k.toNat xs).flatten) (fun b ob q => Heap.get?_push_of_some _ q) (Nat.le_refl _) ?_, rfl, q2 hw _ (I.hok.fresh (Nat.le_refl _))⟩
      exact ⟨by rw [PyProof.Rows.lm_len_rep_flat, sizeLine_eq, Nat.mul_comm]; omega, _, r.rep k.toNat, IsTup.new _ _⟩
    by_cases hk : k ≤ 0
    · have c2 : (decide (k ≤ 0) || its.toArray.isEmpty) = true := by rw [decide_eq_true hk]; rfl
      refine call_meets F.slot_tuple_mul ⟨_, ho, rfl⟩ F.entry_tuple_mul (F.args_tuple_mul_2 _ _) (tuple_mul0 l its.toArray n dd sl k t c0 c1 c2) ⟨ho, fin #[] ?_⟩
      rw [show k.toNat = 0 by omega]
      rfl
    · have c2 : (decide (k ≤ 0) || its.toArray.isEmpty) = false := by rw [he, Bool.or_false]; exact decide_eq_false hk
      have hp : ((its.toArray.size : Nat) : Int) * k ≤ 1000000 := by
        rw [hsz0]
        have e : k = (k.toNat : Int) := by omega
        rw [e, ← Int.natCast_mul]
        omega
      have c4 : Builtin.Tuple.tupleTooMany (((its.toArray.size : Nat) : Int) * k) = false := by
        unfold Builtin.Tuple.tupleTooMany
        rw [sizeLine_eq]
        exact decide_eq_false (by omega)
      have flen : (List.replicate k.toNat its).flatten.length ≤ sizeLine := by
        rw [PyProof.Rows.lm_len_rep_flat, hle, sizeLine_eq, Nat.mul_comm]
        omega
      refine call_meets F.slot_tuple_mul ⟨_, ho, rfl⟩ F.entry_tuple_mul (F.args_tuple_mul_2 _ _) (tuple_mulW l its.toArray n dd sl k t c0 c1 c2 (by omega) c4 (by rw [size_rep, List.size_toArray]; exact flen)) ⟨ho, ?_⟩
      exact fin _ (size_rep _ _)
end Vl

namespace Vl
open PySem PySem.Spec PyProof.Rows L2

/-! ### * -/
def rep (k : Int) (l : List D) : List D := (List.replicate k.toNat l).flatten
abbrev rMulV (K : PySem.W.Frag) : R2 := fun x y H Q => (rI CMulV fun i j => .int (i * j)) x y H Q ∨ (rRepA K x y H Q ∨ rRep x y H Q)
theorem op_mulA {X : Cx} : OpR X (binaryOp .Mult) (rMulV X.K) := op_mulV.or (op_repA.or op_rep)
def repOk (n : Nat) (k : Int) : Bool := decide (-1000000 ≤ k) && decide (k ≤ 1000000) && decide (n * k.toNat ≤ 100000)
def gMul (d e : D) : Option D := match d, e with
  | .int i, .int j => if cMul i j = true then some (.int (i * j)) else none
  | .tup a, .int k => if (repOk a.length k && D.noOwnL a) = true then some (.tup (rep k a)) else none
  | .lst _ a, .int k => if (repOk a.length k && D.noOwnL a) = true then some (.lst true (rep k a)) else none
  | _, _ => none
section
variable {K : PySem.W.Frag} {Z Z' : Addr → Prop} {H H' : Hp}
theorem Rs.rep {ds : List D} {vs : List V} (rs : Rs K Z H ds vs []) : ∀ n : Nat, Rs K Z H (List.replicate n ds).flatten (List.replicate n vs).flatten []
  | 0 => .nil
  | n + 1 => by
    rw [List.replicate_succ, List.replicate_succ, List.flatten_cons, List.flatten_cons]
    exact rs.app (rs.rep n)
theorem repOk_of {n : Nat} {k : Int} (h : repOk n k = true) : -1000000 ≤ k ∧ k ≤ 1000000 ∧ n * k.toNat ≤ 100000 := by
  unfold repOk at h
  rw [Bool.and_eq_true, Bool.and_eq_true] at h
  exact ⟨of_decide_eq_true h.1.1, of_decide_eq_true h.1.2, of_decide_eq_true h.2⟩
theorem os_mul : OpS K (rMulV K) gMul := fun Z H d1 d2 v1 v2 F1 F2 d Q r1 r2 hg q => by
  unfold gMul at hg
  split at hg
  · split at hg
    · rename_i h
      cases hg
      exact .inl ⟨_, _, r1.int_inv, r2.int_inv, cMul_ok h, same_val (.int _) q⟩
    · cases hg
  · split at hg
    · rename_i a k h
      cases hg
      rw [Bool.and_eq_true] at h
      obtain ⟨h1, h2, h3⟩ := repOk_of h.1
      obtain ⟨l, vs, rfl, hl, rs⟩ := r1.tup_inv
      have rs := rs.nil_of h.2
      have hlen := rs.length
      refine .inr (.inl ⟨l, k, vs, rfl, r2.int_inv, hl, h1, h2, by rw [← hlen]; omega, fun e => ?_, fun e p hp => new_tup hp (rs.rep k.toNat) q⟩)
      have e2 : Vl.rep k a = a := by
        unfold Vl.rep
        rcases e with e | e
        · rw [e] at hlen
          rw [List.eq_nil_of_length_eq_zero hlen]
          simp
        · subst e
          simp
      rw [e2] at q
      exact same_val (.tup hl rs) q
    · cases hg
  · split at hg
    · rename_i a k h
      cases hg
      rw [Bool.and_eq_true] at h
      obtain ⟨h1, h2, h3⟩ := repOk_of h.1
      obtain ⟨l, vs, G, rfl, hl, rs⟩ := r1.lst_tr
      have rs := rs.nil_of h.2
      have hlen := rs.length
      exact .inr (.inr ⟨l, k, vs, rfl, r2.int_inv, hl, by omega, by omega, by rw [← hlen, sizeLine_eq]; omega, fun p hp => new_list hp (rs.rep k.toNat) q⟩)
    · cases hg
  · cases hg

/-! ### subscripts -/
def gIx (d e : D) : Option D := match d, e with
  | .tup l, .int i => L2.atI l i
  | .lst _ l, .int i => L2.atI l i
  | .scr l, .int i => L2.atI l i
  | .str s, .int i => if szOk s.length = true then (L2.atI s.cps.toList i).map fun c => .str ⟨#[c]⟩ else none
  | _, _ => none
theorem Rs.atI {ds : List D} {vs : List V} {F : List Addr} {i : Int} {d : D} (rs : Rs K Z H ds vs F) (h : L2.atI ds i = some d) : ∃ v G, L2.atI vs i = some v ∧ R K Z H d v G ∧ ∀ a ∈ G, a ∈ F := by
  unfold L2.atI at h
  obtain ⟨j, h1, h2⟩ := Option.bind_eq_some_iff.mp h
  obtain ⟨v, G, h3, h4, h5⟩ := rs.get h2
  refine ⟨v, G, ?_, h4, h5⟩
  unfold L2.atI
  rw [← rs.length, h1]
  exact h3
theorem os_ix : OpW K (rIx K) gIx := fun Z H d1 d2 v1 v2 F1 F2 d Q r1 r2 hg q => by
  unfold gIx at hg
  split at hg
  · rename_i l i
    obtain ⟨a, vs, rfl, ha, rs⟩ := r1.tup_inv
    obtain ⟨v, G, h1, h2, h3⟩ := rs.atI hg
    exact .inr (.inl ⟨a, vs, i, v, rfl, r2.int_inv, ha, h1, q v H G (Keep.refl _ _) h2 h3⟩)
  · rename_i o l i
    obtain ⟨a, vs, G0, rfl, ha, rs, hs⟩ := r1.lst_at
    obtain ⟨v, G, h1, h2, h3⟩ := rs.atI hg
    exact .inl ⟨a, vs, i, v, rfl, r2.int_inv, ha, h1, q v H G (Keep.refl _ _) h2 fun b hb => hs b (h3 b hb)⟩
  · rename_i l i
    obtain ⟨a, vs, rfl, rfl, ha, rs⟩ := r1.scr_at
    obtain ⟨v, G, h1, h2, h3⟩ := rs.atI hg
    exact .inl ⟨a, vs, i, v, rfl, r2.int_inv, ha, h1, q v H G (Keep.refl _ _) h2 fun b hb => h3 b hb⟩
  · rename_i s i
    split at hg
    · rename_i hz
      rw [Option.map_eq_some_iff] at hg
      obtain ⟨c, hc, rfl⟩ := hg
      exact .inr (.inr ⟨s, i, c, r1.str_inv, r2.int_inv, sz_of hz, hc, q _ H [] (Keep.refl _ _) (.str _) fun _ h => (by cases h)⟩)
    · cases hg
  · cases hg
end
theorem pev_ixs {X : Cx} {T1 T2 O1 O2 : List Nat} {x1 x2 : Bool} {a b : Expr} {fa fb : M D} {pos : Pos} (ha : PEV X T1 O1 x1 a fa) (hb : PEV X T2 O2 x2 b fb) (hp : PlainIx b := by intro _ _; rfl) : PEV X (T1 ++ T2) O1 false (.Subscript a b pos) (fOp O1 T2 gIx fa fb) :=
  pev_ix (hr := ix_seq) os_ix ha hb hp

/-! ### slices -/
def tVO (K : PySem.W.Frag) (T : List Nat) (f : M (Option Int)) : TO := fun σ H Q => ∃ Z ρ Fs o ρ', Rel K Z ρ σ H Fs ∧ f ρ = some (o, ρ') ∧
  ∀ H' Z' Fs', Rel K Z' ρ' σ H' Fs' → Frm T Z ρ Fs H Z' ρ' Fs' H' → Q o H'
abbrev POV (X : Cx) (T : List Nat) (e : Option Expr) (f : M (Option Int)) : Prop := PO X e (tVO X.K T f)
theorem PO.imp {X : Cx} {e : Option Expr} {t t' : TO} (h : PO X e t) (i : ∀ σ H Q, t' σ H Q → t σ H Q) : PO X e t' := ⟨fun pins s σ H Q I q => h.run pins s σ H Q I (i σ H Q q)⟩
def oNone : M (Option Int) := fun ρ => some (none, ρ)
def oSome (f : M D) : M (Option Int) := fun ρ => (f ρ).bind fun p => match p.1 with
  | .int i => some (some i, p.2)
  | _ => none
def cutL (xs : List D) (lo hi : Option Int) : List D := (xs.drop (HT.sIx xs.length 0 lo)).take (HT.sIx xs.length xs.length hi - HT.sIx xs.length 0 lo)
def gSl (d : D) (lo hi : Option Int) : Option D := match d with
  | .tup l => if D.noOwnL l = true then some (.tup (cutL l lo hi)) else none
  | .lst _ l => if D.noOwnL l = true then some (.lst true (cutL l lo hi)) else none
  | .scr l => if D.noOwnL l = true then some (.lst true (cutL l lo hi)) else none
  | .str s => if szOk s.length = true then some (.str (cutS s lo hi)) else none
  | _ => none
def fSl (O1 T2 : List Nat) (f : M D) (fl fh : M (Option Int)) : M D := fun ρ => (f ρ).bind fun p => (fl p.2).bind fun l => (fh l.2).bind fun h => if safe O1 T2 p.1 = true then (gSl p.1 l.1 h.1).bind fun d => some (d, h.2) else none
section
variable {X : Cx} {T T1 T2 O O1 : List Nat} {x : Bool} {e : Expr} {lo hi : Option Expr} {f : M D} {fl fh : M (Option Int)} {pos p2 : Pos}
theorem pov_none : POV X [] none oNone := by
  refine PO.imp po_none fun σ H Q h => ?_
  obtain ⟨Z, ρ, Fs, o, ρ', rel, hf, q⟩ := h
  cases hf
  exact q H Z Fs rel (Frm.refl _)
theorem pov_some (h : PEV X T O x e f) : POV X T (some e) (oSome f) := by
  refine PO.imp (po_some h) fun σ H Q h => ?_
  obtain ⟨Z, ρ, Fs, o, ρ', rel, hf, q⟩ := h
  unfold oSome at hf
  obtain ⟨⟨d, ρ1⟩, h1, hf⟩ := Option.bind_eq_some_iff.mp hf
  split at hf
  · rename_i i e
    cases hf
    have e : d = .int i := e
    subst e
    exact ⟨Z, ρ, Fs, _, _, rel, h1, fun v H' Z' Fs' F rel' f' w c => ⟨i, w.r.int_inv, q H' Z' Fs' rel' f'⟩⟩
  · cases hf
abbrev rSlV (K : PySem.W.Frag) : V → Option Int → Option Int → Hp → VK → Prop := fun x lo hi H Q => rSlA K x lo hi H Q ∨ (rSlL K x lo hi H Q ∨ rSlS x lo hi H Q)
theorem sl_V : SlR X (rSlV X.K) := sl_tupA.or (sl_list.or sl_str)
theorem Rs.drop0 {K : PySem.W.Frag} {Z : Addr → Prop} {H : Hp} : ∀ {ds : List D} {vs : List V} (n : Nat), Rs K Z H ds vs [] → Rs K Z H (ds.drop n) (vs.drop n) []
  | _, _, 0, r => r
  | [], [], n + 1, r => r
  | d :: ds, [], n + 1, r => nomatch r
  | [], v :: vs, n + 1, r => nomatch r
  | d :: ds, v :: vs, n + 1, r => by
    obtain ⟨v', ws, F1, F2, e1, e2, r1, r2⟩ := r.uncons
    cases e1
    obtain ⟨e3, e4⟩ := app_eq_nil e2.symm
    subst e3 e4
    exact Rs.drop0 n r2
theorem Rs.take0 {K : PySem.W.Frag} {Z : Addr → Prop} {H : Hp} : ∀ {ds : List D} {vs : List V} (n : Nat), Rs K Z H ds vs [] → Rs K Z H (ds.take n) (vs.take n) []
  | _, _, 0, r => .nil
  | [], [], n + 1, r => .nil
  | d :: ds, [], n + 1, r => nomatch r
  | [], v :: vs, n + 1, r => nomatch r
  | d :: ds, v :: vs, n + 1, r => by
    obtain ⟨v', ws, F1, F2, e1, e2, r1, r2⟩ := r.uncons
    cases e1
    obtain ⟨e3, e4⟩ := app_eq_nil e2.symm
    subst e3 e4
    exact .cons0 r1 (Rs.take0 n r2)
theorem Rs.cut {K : PySem.W.Frag} {Z : Addr → Prop} {H : Hp} {ds : List D} {vs : List V} (r : Rs K Z H ds vs []) (lo hi : Option Int) : Rs K Z H (cutL ds lo hi) (cutV vs lo hi) [] := by
  unfold cutL cutV
  rw [r.length]
  exact (r.drop0 _).take0 _
theorem cut_whole {xs : List D} {lo hi : Option Int} (h : HT.sIx xs.length 0 lo = 0 ∧ HT.sIx xs.length xs.length hi = xs.length) : cutL xs lo hi = xs := by
  unfold cutL
  rw [h.1, h.2, List.drop_zero, Nat.sub_zero, List.take_length]
theorem sl_data {K : PySem.W.Frag} {Z : Addr → Prop} {H : Hp} {d d' : D} {v : V} {F : List Addr} {lo hi : Option Int} {Q : VK} (r1 : R K Z H d v F) (hg : gSl d lo hi = some d') (q : ∀ v H' F, Keep M0 H H' → R K Z H' d' v F → F.Nodup → (∀ a ∈ F, H a = none) → Q v H') : rSlV K v lo hi H Q := by
  unfold gSl at hg
  split at hg
  · split at hg
    · rename_i l hn
      cases hg
      obtain ⟨a, vs, rfl, ha, rs⟩ := r1.tup_inv
      have rs := rs.nil_of hn
      refine .inl ⟨a, vs, rfl, ha, fun hw => ?_, fun _ p hp => new_tup hp (rs.cut lo hi) q⟩
      rw [← rs.length] at hw
      rw [cut_whole hw] at q
      exact same_val (.tup ha rs) q
    · cases hg
  · split at hg
    · rename_i o l hn
      cases hg
      obtain ⟨a, vs, G, rfl, ha, rs, _⟩ := r1.lst_at
      exact .inr (.inl ⟨a, vs, rfl, ha, fun p hp => new_list hp ((rs.nil_of hn).cut lo hi) q⟩)
    · cases hg
  · split at hg
    · rename_i l hn
      cases hg
      obtain ⟨a, vs, rfl, rfl, ha, rs⟩ := r1.scr_at
      exact .inr (.inl ⟨a, vs, rfl, ha, fun p hp => new_list hp (rs.cut lo hi) q⟩)
    · cases hg
  · split at hg
    · rename_i s hz
      cases hg
      exact .inr (.inr ⟨s, r1.str_inv, sz_of hz, same_val (.str _) q⟩)
    · cases hg
  · cases hg
theorem pev_slice (he : PEV X T O x e f) (hl : POV X T1 lo fl) (hh : POV X T2 hi fh) : PEV X (T ++ (T1 ++ T2)) [] true (.Subscript e (.Slice lo hi none p2) pos) (fSl O (T1 ++ T2) f fl fh) := by
  refine PE.imp (pe_slice sl_V he hl hh) fun σ H Q h => ?_
  obtain ⟨Z, ρ, Fs, d, ρ', rel, hf, q⟩ := h
  unfold fSl at hf
  obtain ⟨⟨d1, ρ1⟩, h1, hf⟩ := Option.bind_eq_some_iff.mp hf
  obtain ⟨⟨l, ρ2⟩, h2, hf⟩ := Option.bind_eq_some_iff.mp hf
  obtain ⟨⟨u, ρ3⟩, h3, hf⟩ := Option.bind_eq_some_iff.mp hf
  split at hf
  · rename_i hsf
    obtain ⟨d', h4, hf⟩ := Option.bind_eq_some_iff.mp hf
    cases hf
    refine ⟨Z, ρ, Fs, d1, ρ1, rel, h1, fun v1 H1 Z1 Fs1 F1 rel1 f1 w1 c1 => ⟨Z1, ρ1, Fs1, l, ρ2, rel1, h2, fun H2 Z2 Fs2 rel2 f2 => ⟨Z2, ρ2, Fs2, u, ρ3, rel2, h3, fun H3 Z3 Fs3 rel3 f3 => ?_⟩⟩⟩
    have f23 := f2.trans f3
    have w3 := w1.keep rel1 f23 hsf
    refine sl_data w3.r h4 fun v H' F k r nd nw => ?_
    have ff := f1.trans f23
    have fz := ff.trans (Frm.pureT [] k)
    rw [List.append_nil] at fz
    exact q v H' Z3 Fs3 F (rel3.keep0 k) fz (Val.new rel3 r nd nw) (Cf.new ff.keep nw)
  · cases hf
end

/-! ### built-ins -/
def gLen : List D → Option D
  | [.tup l] => some (.int l.length)
  | [.lst _ l] => some (.int l.length)
  | [.scr l] => some (.int l.length)
  | [.str s] => if szOk s.length = true then some (.int s.length) else none
  | [.dct true _ l] => some (.int l.length)
  | _ => none
section
variable {X : Cx} {K : PySem.W.Frag} {Z : Addr → Prop} {H : Hp}
abbrev rLenV (K : PySem.W.Frag) : List V → Hp → VK → Prop := fun xs H Q => (∃ p ys, xs = [.ref p] ∧ (SqL K H p ys ∨ SqT K H p ys) ∧ Q (.int ys.length) H) ∨ ((∃ z, xs = [.str z] ∧ z.length ≤ sizeLine ∧ Q (.int z.length) H) ∨
  ((∃ a kvs, xs = [V.ref a] ∧ H a = some (.dK kvs) ∧ Q (.int kvs.length) H) ∨ rLenT xs H Q))
theorem call_lenV : CallR X (.builtin "len") (rLenV X.K) := call_len_seq.or (call_len_str.or (call_lenD.or call_len_dT))
theorem Rs.one_inv {d : D} {vs : List V} {F : List Addr} (rs : Rs K Z H [d] vs F) : ∃ v, vs = [v] ∧ R K Z H d v F := by
  obtain ⟨v, ws, F1, F2, rfl, rfl, r, rs⟩ := rs.uncons
  cases rs
  rw [List.append_nil]
  exact ⟨v, rfl, r⟩
theorem Rs.two_inv {d e : D} {vs : List V} {F : List Addr} (rs : Rs K Z H [d, e] vs F) : ∃ v w F1 F2, vs = [v, w] ∧ R K Z H d v F1 ∧ R K Z H e w F2 := by
  obtain ⟨v, ws, F1, F2, rfl, rfl, r, rs⟩ := rs.uncons
  obtain ⟨w, rfl, r2⟩ := rs.one_inv
  exact ⟨v, w, F1, F2, rfl, r, r2⟩
theorem ClS.here {r : List V → Hp → VK → Prop} {g : List D → Option D} (h : ∀ (Z : Addr → Prop) (H : Hp) (ds : List D) (vs : List V) (F1 : List Addr) (d : D) (Q : VK), Rs K Z H ds vs F1 → g ds = some d → (∀ v, R K Z H d v [] → Q v H) → r vs H Q) : ClS K r g :=
  fun Z H ds vs F1 d Q rs hg q => h Z H ds vs F1 d Q rs hg fun v rv => same_val rv q
theorem R.dct_own {t : Bool} {kvs : List (D × D)} {v : V} {F : List Addr} (r : R K Z H (.dct true t kvs) v F) : ∃ a vs G, v = .ref a ∧ F = a :: G ∧ DcAt H a t (kvs.map (·.1)) vs ∧ Rs K Z H (kvs.map (·.2)) vs G := by
  cases r with
  | dow h rs => exact ⟨_, _, _, rfl, rfl, h, rs⟩
theorem cs_len : ClS K (rLenV K) gLen := ClS.here fun Z H ds vs F1 d Q rs hg q => by
  unfold gLen at hg
  split at hg
  · cases hg
    obtain ⟨v, rfl, r⟩ := rs.one_inv
    obtain ⟨a, ws, rfl, ha, r2⟩ := r.tup_inv
    exact .inl ⟨a, ws, rfl, .inr ha, by rw [← r2.length]; exact q _ (.int _)⟩
  · cases hg
    obtain ⟨v, rfl, r⟩ := rs.one_inv
    obtain ⟨a, ws, G, rfl, ha, r2, _⟩ := r.lst_at
    exact .inl ⟨a, ws, rfl, .inl ha, by rw [← r2.length]; exact q _ (.int _)⟩
  · cases hg
    obtain ⟨v, rfl, r⟩ := rs.one_inv
    obtain ⟨a, ws, rfl, _, ha, r2⟩ := r.scr_at
    exact .inl ⟨a, ws, rfl, .inl ha, by rw [← r2.length]; exact q _ (.int _)⟩
  · split at hg
    · rename_i hz
      cases hg
      obtain ⟨v, rfl, r⟩ := rs.one_inv
      rw [r.str_inv]
      exact .inr (.inl ⟨_, rfl, sz_of hz, q _ (.int _)⟩)
    · cases hg
  · cases hg
    rename_i t l
    obtain ⟨v, rfl, r⟩ := rs.one_inv
    obtain ⟨a, ws, G, rfl, rfl, ha, r2⟩ := r.dct_own
    obtain ⟨o, h, ho⟩ := ha
    cases t with
    | false =>
      obtain ⟨kvs, e1, e2, e3⟩ := ho
      subst e1
      have hl : kvs.length = l.length := by have := congrArg List.length e2; simpa using this.symm
      exact .inr (.inr (.inl ⟨a, kvs, rfl, h, by rw [hl]; exact q _ (.int _)⟩))
    | true =>
      obtain ⟨kvs, e1, e2, e3⟩ := ho
      subst e1
      have hl : kvs.length = l.length := by have := congrArg List.length e2; simpa using this.symm
      exact .inr (.inr (.inr ⟨a, kvs, rfl, h, by rw [hl]; exact q _ (.int _)⟩))
  · cases hg
def gAbs : List D → Option D
  | [.int i] => some (.int (if i < 0 then -i else i))
  | _ => none
theorem cs_abs : ClS K (fun xs H Q => ∃ i, xs = [.int i] ∧ Q (.int (if i < 0 then -i else i)) H) gAbs := ClS.here fun Z H ds vs F1 d Q rs hg q => by
  unfold gAbs at hg
  split at hg
  · cases hg
    exact ⟨_, rs.ints1, q _ (.int _)⟩
  · cases hg
def gMax2 : List D → Option D
  | [.int i, .int j] => some (.int (if j > i then j else i))
  | _ => none
def gMin2 : List D → Option D
  | [.int i, .int j] => some (.int (if j < i then j else i))
  | _ => none
theorem cs_max2 : ClS K (fun xs H Q => ∃ i j, xs = [.int i, .int j] ∧ Q (.int (if j > i then j else i)) H) gMax2 := ClS.here fun Z H ds vs F1 d Q rs hg q => by
  unfold gMax2 at hg
  split at hg
  · cases hg
    exact ⟨_, _, rs.ints2, q _ (.int _)⟩
  · cases hg
theorem cs_min2 : ClS K (fun xs H Q => ∃ i j, xs = [.int i, .int j] ∧ Q (.int (if j < i then j else i)) H) gMin2 := ClS.here fun Z H ds vs F1 d Q rs hg q => by
  unfold gMin2 at hg
  split at hg
  · cases hg
    exact ⟨_, _, rs.ints2, q _ (.int _)⟩
  · cases hg
def gInt : List D → Option D
  | [.int i] => some (.int i)
  | [.bl b] => some (.int (if b then 1 else 0))
  | _ => none
theorem cs_int : ClS K (fun xs H Q => (∃ i, xs = [.int i] ∧ Q (.int i) H) ∨ ∃ k, xs = [.bl k] ∧ Q (.int (if k then 1 else 0)) H) gInt := ClS.here fun Z H ds vs F1 d Q rs hg q => by
  unfold gInt at hg
  split at hg
  · cases hg
    exact .inl ⟨_, rs.ints1, q _ (.int _)⟩
  · cases hg
    obtain ⟨v, rfl, r⟩ := rs.one_inv
    exact .inr ⟨_, by rw [r.bl_inv], q _ (.int _)⟩
  · cases hg
/-- the ints of a row -/
def ints? : List D → Option (List Int)
  | [] => some []
  | .int i :: r => (ints? r).bind fun l => some (i :: l)
  | _ => none
theorem ints?_of : ∀ {l : List D} {ns : List Int}, ints? l = some ns → l = ns.map D.int
  | [], ns, h => by cases h; rfl
  | .int i :: r, ns, h => by
    obtain ⟨l, h1, h2⟩ := Option.bind_eq_some_iff.mp h
    cases h2
    rw [ints?_of h1]
    rfl
  | .non :: _, _, h => nomatch h
  | .bl _ :: _, _, h => nomatch h
  | .str _ :: _, _, h => nomatch h
  | .tup _ :: _, _, h => nomatch h
  | .lst _ _ :: _, _, h => nomatch h
  | .dct _ _ _ :: _, _, h => nomatch h
  | .scr _ :: _, _, h => nomatch h
theorem ints?_map : ∀ ns : List Int, ints? (ns.map D.int) = some ns
  | [] => rfl
  | n :: r => by
    show (ints? (r.map D.int)).bind _ = _
    rw [ints?_map r]
    rfl
theorem Rs.intsV : ∀ {ns : List Int} {vs : List V} {F : List Addr}, Rs K Z H (ns.map D.int) vs F → vs = ns.map V.int
  | [], _, _, .nil => rfl
  | n :: r, _, _, rs => by
    obtain ⟨v, ws, F1, F2, rfl, rfl, r1, rs⟩ := Rs.uncons rs
    rw [r1.int_inv, rs.intsV]
    rfl
def seqOf : D → Option (List D)
  | .lst _ l => some l
  | .scr l => some l
  | _ => none
theorem seqOf_at {d : D} {l : List D} {v : V} {F : List Addr} (h : seqOf d = some l) (r : R K Z H d v F) : ∃ a vs G, v = .ref a ∧ SqL K H a vs ∧ Rs K Z H l vs G ∧ ∀ b ∈ G, b ∈ F := by
  unfold seqOf at h
  split at h
  · cases h
    exact r.lst_at
  · cases h
    obtain ⟨a, vs, rfl, rfl, h1, h2⟩ := r.scr_at
    exact ⟨a, vs, [], rfl, h1, h2, fun _ h => h⟩
  · cases h
def gSum : List D → Option D
  | [d] => (seqOf d).bind fun l => (ints? l).bind fun ns => some (.int ns.sum)
  | _ => none
theorem cs_sum : ClS K (rSum K) gSum := ClS.here fun Z H ds vs F1 d Q rs hg q => by
  unfold gSum at hg
  split at hg
  · obtain ⟨l, h1, hg⟩ := Option.bind_eq_some_iff.mp hg
    obtain ⟨ns, h2, hg⟩ := Option.bind_eq_some_iff.mp hg
    cases hg
    obtain ⟨v, rfl, r⟩ := rs.one_inv
    obtain ⟨a, ws, G, rfl, ha, r2, _⟩ := seqOf_at h1 r
    rw [ints?_of h2] at r2
    rw [r2.intsV] at ha
    exact ⟨a, ns, rfl, ha, q _ (.int _)⟩
  · cases hg
def bls? : List D → Option (List Bool)
  | [] => some []
  | .bl i :: r => (bls? r).bind fun l => some (i :: l)
  | _ => none
theorem bls?_of : ∀ {l : List D} {ns : List Bool}, bls? l = some ns → l = ns.map D.bl
  | [], ns, h => by cases h; rfl
  | .bl i :: r, ns, h => by
    obtain ⟨l, h1, h2⟩ := Option.bind_eq_some_iff.mp h
    cases h2
    rw [bls?_of h1]
    rfl
  | .non :: _, _, h => nomatch h
  | .int _ :: _, _, h => nomatch h
  | .str _ :: _, _, h => nomatch h
  | .tup _ :: _, _, h => nomatch h
  | .lst _ _ :: _, _, h => nomatch h
  | .dct _ _ _ :: _, _, h => nomatch h
  | .scr _ :: _, _, h => nomatch h
theorem bls?_map : ∀ ns : List Bool, bls? (ns.map D.bl) = some ns
  | [] => rfl
  | n :: r => by
    show (bls? (r.map D.bl)).bind _ = _
    rw [bls?_map r]
    rfl
theorem Rs.blsV : ∀ {ns : List Bool} {vs : List V} {F : List Addr}, Rs K Z H (ns.map D.bl) vs F → vs = ns.map V.bl
  | [], _, _, .nil => rfl
  | n :: r, _, _, rs => by
    obtain ⟨v, ws, F1, F2, rfl, rfl, r1, rs⟩ := Rs.uncons rs
    rw [r1.bl_inv, rs.blsV]
    rfl
def gAll : List D → Option D
  | [d] => (seqOf d).bind fun l => (bls? l).bind fun ns => some (.bl (ns.all id))
  | _ => none
def gAny : List D → Option D
  | [d] => (seqOf d).bind fun l => (bls? l).bind fun ns => some (.bl (ns.any id))
  | _ => none
/-- a new list of the items of a list, a tuple -/
def gList : List D → Option D
  | [.tup l] => if D.noOwnL l = true then some (.lst true l) else none
  | [.lst _ l] => if D.noOwnL l = true then some (.lst true l) else none
  | [.scr l] => if D.noOwnL l = true then some (.lst true l) else none
  | _ => none
theorem cs_list : ClS K (fun xs H Q => ∃ p ys, xs = [.ref p] ∧ (SqL K H p ys ∨ SqT K H p ys) ∧ ∀ l, H l = none → Q (.ref l) (upd H l (.lst ys))) gList := fun Z H ds vs F1 d Q rs hg q => by
  unfold gList at hg
  split at hg
  · split at hg
    · rename_i hn
      cases hg
      obtain ⟨v, rfl, r⟩ := rs.one_inv
      obtain ⟨a, ws, rfl, ha, r2⟩ := r.tup_inv
      exact ⟨a, ws, rfl, .inr ha, fun p hp => new_list hp (r2.nil_of hn) q⟩
    · cases hg
  · split at hg
    · rename_i hn
      cases hg
      obtain ⟨v, rfl, r⟩ := rs.one_inv
      obtain ⟨a, ws, G, rfl, ha, r2, _⟩ := r.lst_at
      exact ⟨a, ws, rfl, .inl ha, fun p hp => new_list hp (r2.nil_of hn) q⟩
    · cases hg
  · split at hg
    · rename_i hn
      cases hg
      obtain ⟨v, rfl, r⟩ := rs.one_inv
      obtain ⟨a, ws, rfl, rfl, ha, r2⟩ := r.scr_at
      exact ⟨a, ws, rfl, .inl ha, fun p hp => new_list hp r2 q⟩
    · cases hg
  · cases hg
def gTuple : List D → Option D
  | [.tup l] => if D.noOwnL l = true then some (.tup l) else none
  | [.lst _ l] => if D.noOwnL l = true then some (.tup l) else none
  | [.scr l] => if D.noOwnL l = true then some (.tup l) else none
  | _ => none
theorem cs_tuple : ClS K (fun xs H Q => ∃ p ys, xs = [.ref p] ∧ ((SqL K H p ys ∧ ∀ l, H l = none → Q (.ref l) (upd H l (.tup ys))) ∨ (SqT K H p ys ∧ Q (.ref p) H))) gTuple := fun Z H ds vs F1 d Q rs hg q => by
  unfold gTuple at hg
  split at hg
  · split at hg
    · rename_i hn
      cases hg
      obtain ⟨v, rfl, r⟩ := rs.one_inv
      have e := r.no (show (D.tup _).noOwn = true from hn)
      subst e
      obtain ⟨a, ws, rfl, ha, r2⟩ := r.tup_inv
      exact ⟨a, ws, rfl, .inr ⟨ha, same_val r q⟩⟩
    · cases hg
  · split at hg
    · rename_i hn
      cases hg
      obtain ⟨v, rfl, r⟩ := rs.one_inv
      obtain ⟨a, ws, G, rfl, ha, r2, _⟩ := r.lst_at
      exact ⟨a, ws, rfl, .inl ⟨ha, fun p hp => new_tup hp (r2.nil_of hn) q⟩⟩
    · cases hg
  · split at hg
    · rename_i hn
      cases hg
      obtain ⟨v, rfl, r⟩ := rs.one_inv
      obtain ⟨a, ws, rfl, rfl, ha, r2⟩ := r.scr_at
      exact ⟨a, ws, rfl, .inl ⟨ha, fun p hp => new_tup hp r2 q⟩⟩
    · cases hg
  · cases hg
end
end Vl

namespace Vl
open PySem PySem.Spec PyProof.Rows L2

section
variable {X : Cx} {K : PySem.W.Frag} {Z : Addr → Prop} {H : Hp}
theorem cs_all : ClS K (rAll K) gAll := ClS.here fun Z H ds vs F1 d Q rs hg q => by
  unfold gAll at hg
  split at hg
  · obtain ⟨l, h1, hg⟩ := Option.bind_eq_some_iff.mp hg
    obtain ⟨ns, h2, hg⟩ := Option.bind_eq_some_iff.mp hg
    cases hg
    obtain ⟨v, rfl, r⟩ := rs.one_inv
    obtain ⟨a, ws, G, rfl, ha, r2, _⟩ := seqOf_at h1 r
    rw [bls?_of h2] at r2
    rw [r2.blsV] at ha
    exact ⟨a, ns, rfl, ha, q _ (.bl _)⟩
  · cases hg
theorem cs_any : ClS K (rAny K) gAny := ClS.here fun Z H ds vs F1 d Q rs hg q => by
  unfold gAny at hg
  split at hg
  · obtain ⟨l, h1, hg⟩ := Option.bind_eq_some_iff.mp hg
    obtain ⟨ns, h2, hg⟩ := Option.bind_eq_some_iff.mp hg
    cases hg
    obtain ⟨v, rfl, r⟩ := rs.one_inv
    obtain ⟨a, ws, G, rfl, ha, r2, _⟩ := seqOf_at h1 r
    rw [bls?_of h2] at r2
    rw [r2.blsV] at ha
    exact ⟨a, ns, rfl, ha, q _ (.bl _)⟩
  · cases hg
def minI : List Int → Option Int
  | [] => none
  | n :: r => some (r.foldl min n)
def maxI : List Int → Option Int
  | [] => none
  | n :: r => some (r.foldl max n)
theorem foldl_min : ∀ (r : List Int) (n : Int), (r.foldl min n ∈ n :: r) ∧ ∀ y ∈ n :: r, r.foldl min n ≤ y
  | [], n => ⟨List.mem_cons_self, fun y hy => by simp at hy; subst hy; exact Int.le_refl _⟩
  | m :: r, n => by
    obtain ⟨h1, h2⟩ := foldl_min r (min n m)
    constructor
    · show r.foldl min (min n m) ∈ _
      rcases List.mem_cons.mp h1 with e | h1
      · rw [e]
        by_cases q : n ≤ m
        · rw [Int.min_eq_left q]; simp
        · rw [Int.min_eq_right (by omega)]; simp
      · exact List.mem_cons_of_mem _ (List.mem_cons_of_mem _ h1)
    · intro y hy
      show r.foldl min (min n m) ≤ y
      have h0 := h2 (min n m) List.mem_cons_self
      rcases List.mem_cons.mp hy with e | hy
      · subst e; have := Int.min_le_left y m; omega
      · rcases List.mem_cons.mp hy with e | hy
        · subst e; have := Int.min_le_right n y; omega
        · exact h2 y (List.mem_cons_of_mem _ hy)
theorem foldl_max : ∀ (r : List Int) (n : Int), (r.foldl max n ∈ n :: r) ∧ ∀ y ∈ n :: r, y ≤ r.foldl max n
  | [], n => ⟨List.mem_cons_self, fun y hy => by simp at hy; subst hy; exact Int.le_refl _⟩
  | m :: r, n => by
    obtain ⟨h1, h2⟩ := foldl_max r (max n m)
    constructor
    · show r.foldl max (max n m) ∈ _
      rcases List.mem_cons.mp h1 with e | h1
      · rw [e]
        by_cases q : n ≤ m
        · rw [Int.max_eq_right q]; simp
        · rw [Int.max_eq_left (by omega)]; simp
      · exact List.mem_cons_of_mem _ (List.mem_cons_of_mem _ h1)
    · intro y hy
      show y ≤ r.foldl max (max n m)
      have h0 := h2 (max n m) List.mem_cons_self
      rcases List.mem_cons.mp hy with e | hy
      · subst e; have := Int.le_max_left y m; omega
      · rcases List.mem_cons.mp hy with e | hy
        · subst e; have := Int.le_max_right n y; omega
        · exact h2 y (List.mem_cons_of_mem _ hy)
def gMin1 : List D → Option D
  | [d] => (seqOf d).bind fun l => (ints? l).bind fun ns => (minI ns).bind fun m => some (.int m)
  | _ => none
def gMax1 : List D → Option D
  | [d] => (seqOf d).bind fun l => (ints? l).bind fun ns => (maxI ns).bind fun m => some (.int m)
  | _ => none
theorem cs_min1 : ClS K (rMin K) gMin1 := ClS.here fun Z H ds vs F1 d Q rs hg q => by
  unfold gMin1 at hg
  split at hg
  · obtain ⟨l, h1, hg⟩ := Option.bind_eq_some_iff.mp hg
    obtain ⟨ns, h2, hg⟩ := Option.bind_eq_some_iff.mp hg
    obtain ⟨m, h3, hg⟩ := Option.bind_eq_some_iff.mp hg
    cases hg
    obtain ⟨v, rfl, r⟩ := rs.one_inv
    obtain ⟨a, ws, G, rfl, ha, r2, _⟩ := seqOf_at h1 r
    rw [ints?_of h2] at r2
    rw [r2.intsV] at ha
    cases ns with
    | nil => cases h3
    | cons n ns =>
      cases h3
      obtain ⟨e1, e2⟩ := foldl_min ns n
      refine ⟨a, _, rfl, ha, by simp, fun m hm hl => ?_⟩
      have : m = ns.foldl min n := Int.le_antisymm (hl _ e1) (e2 m hm)
      subst this
      exact q _ (.int _)
  · cases hg
theorem cs_max1 : ClS K (rMax K) gMax1 := ClS.here fun Z H ds vs F1 d Q rs hg q => by
  unfold gMax1 at hg
  split at hg
  · obtain ⟨l, h1, hg⟩ := Option.bind_eq_some_iff.mp hg
    obtain ⟨ns, h2, hg⟩ := Option.bind_eq_some_iff.mp hg
    obtain ⟨m, h3, hg⟩ := Option.bind_eq_some_iff.mp hg
    cases hg
    obtain ⟨v, rfl, r⟩ := rs.one_inv
    obtain ⟨a, ws, G, rfl, ha, r2, _⟩ := seqOf_at h1 r
    rw [ints?_of h2] at r2
    rw [r2.intsV] at ha
    cases ns with
    | nil => cases h3
    | cons n ns =>
      cases h3
      obtain ⟨e1, e2⟩ := foldl_max ns n
      refine ⟨a, _, rfl, ha, by simp, fun m hm hl => ?_⟩
      have : m = ns.foldl max n := Int.le_antisymm (e2 m hm) (hl _ e1)
      subst this
      exact q _ (.int _)
  · cases hg
/-- min, max of two ints or of a list -/
abbrev rMinV (K : PySem.W.Frag) : List V → Hp → VK → Prop := fun xs H Q => (∃ i j, xs = [.int i, .int j] ∧ Q (.int (if j < i then j else i)) H) ∨ rMin K xs H Q
abbrev rMaxV (K : PySem.W.Frag) : List V → Hp → VK → Prop := fun xs H Q => (∃ i j, xs = [.int i, .int j] ∧ Q (.int (if j > i then j else i)) H) ∨ rMax K xs H Q
theorem call_minV (hc : X.calm = true) : CallR X (.builtin "min") (rMinV X.K) := (call_min2 hc).or (cr_min hc)
theorem call_maxV (hc : X.calm = true) : CallR X (.builtin "max") (rMaxV X.K) := (call_max2 hc).or (cr_max hc)
def gMin (ds : List D) : Option D := match ds with
  | [_] => gMin1 ds
  | _ => gMin2 ds
def gMax (ds : List D) : Option D := match ds with
  | [_] => gMax1 ds
  | _ => gMax2 ds
theorem cs_min : ClS K (rMinV K) gMin := fun Z H ds vs F1 d Q rs hg q => by
  unfold gMin at hg
  split at hg
  · exact .inr (cs_min1 Z H _ vs F1 d Q rs hg q)
  · exact .inl (cs_min2 Z H _ vs F1 d Q rs hg q)
theorem cs_max : ClS K (rMaxV K) gMax := fun Z H ds vs F1 d Q rs hg q => by
  unfold gMax at hg
  split at hg
  · exact .inr (cs_max1 Z H _ vs F1 d Q rs hg q)
  · exact .inl (cs_max2 Z H _ vs F1 d Q rs hg q)

/-! ### sorted of ints -/
def insI (x : Int) : List Int → List Int
  | [] => [x]
  | y :: r => if x ≤ y then x :: y :: r else y :: insI x r
def srtI : List Int → List Int
  | [] => []
  | x :: r => insI x (srtI r)
theorem insI_perm (x : Int) : ∀ l, (insI x l).Perm (x :: l)
  | [] => List.Perm.refl _
  | y :: r => by
    unfold insI
    split
    · exact List.Perm.refl _
    · exact ((insI_perm x r).cons y).trans (List.Perm.swap x y r)
theorem srtI_perm : ∀ l, (srtI l).Perm l
  | [] => List.Perm.refl _
  | x :: r => (insI_perm x (srtI r)).trans ((srtI_perm r).cons x)
theorem insI_sorted (x : Int) : ∀ {l : List Int}, l.Pairwise (· ≤ ·) → (insI x l).Pairwise (· ≤ ·)
  | [], _ => by simp [insI]
  | y :: r, h => by
    obtain ⟨h1, h2⟩ := List.pairwise_cons.mp h
    unfold insI
    split
    · rename_i hxy
      refine List.pairwise_cons.mpr ⟨fun z hz => ?_, h⟩
      rcases List.mem_cons.mp hz with e | hz
      · subst e; exact hxy
      · exact Int.le_trans hxy (h1 z hz)
    · rename_i hxy
      refine List.pairwise_cons.mpr ⟨fun z hz => ?_, insI_sorted x h2⟩
      rcases List.mem_cons.mp ((insI_perm x r).mem_iff.mp hz) with e | hz
      · subst e; omega
      · exact h1 z hz
theorem srtI_sorted : ∀ l, (srtI l).Pairwise (· ≤ ·)
  | [] => List.Pairwise.nil
  | x :: r => insI_sorted x (srtI_sorted r)
theorem sorted_one : ∀ {l m : List Int}, l.Perm m → l.Pairwise (· ≤ ·) → m.Pairwise (· ≤ ·) → l = m
  | [], m, p, _, _ => (List.nil_perm.mp p).symm
  | x :: l, [], p, _, _ => absurd p.length_eq (by simp)
  | x :: l, y :: m, p, h1, h2 => by
    obtain ⟨a1, a2⟩ := List.pairwise_cons.mp h1
    obtain ⟨b1, b2⟩ := List.pairwise_cons.mp h2
    have e : x = y := by
      have hx : x ∈ y :: m := p.mem_iff.mp List.mem_cons_self
      have hy : y ∈ x :: l := p.mem_iff.mpr List.mem_cons_self
      rcases List.mem_cons.mp hx with e | hx
      · exact e
      · rcases List.mem_cons.mp hy with e | hy
        · exact e.symm
        · exact Int.le_antisymm (a1 y hy) (b1 x hx)
    subst e
    rw [sorted_one ((List.perm_cons x).mp p) a2 b2]
def gSortedI : List D → Option D
  | [d] => (seqOf d).bind fun l => (ints? l).bind fun ns => some (.lst true ((srtI ns).map D.int))
  | _ => none
theorem Rs.ints : ∀ ns : List Int, Rs K Z H (ns.map D.int) (ns.map V.int) []
  | [] => .nil
  | n :: r => .cons0 (.int n) (Rs.ints r)
theorem cs_sortedI : ClS K (rSortedI K) gSortedI := fun Z H ds vs F1 d Q rs hg q => by
  unfold gSortedI at hg
  split at hg
  · obtain ⟨l, h1, hg⟩ := Option.bind_eq_some_iff.mp hg
    obtain ⟨ns, h2, hg⟩ := Option.bind_eq_some_iff.mp hg
    cases hg
    obtain ⟨v, rfl, r⟩ := rs.one_inv
    obtain ⟨a, ws, G, rfl, ha, r2, _⟩ := seqOf_at h1 r
    rw [ints?_of h2] at r2
    rw [r2.intsV] at ha
    refine ⟨a, ns, rfl, ha, fun ns' p hp hs hn => ?_⟩
    have e : ns' = srtI ns := sorted_one (hp.trans (srtI_perm ns).symm) hs (srtI_sorted ns)
    subst e
    exact new_list hn (Rs.ints _) q
  · cases hg

/-! ### is, in -/
def gIs (d e : D) : Option D := match d, e with
  | .bl a, .bl b => some (.bl (decide (a = b)))
  | _, _ => none
def gIsNot (d e : D) : Option D := match d, e with
  | .bl a, .bl b => some (.bl (!decide (a = b)))
  | _, _ => none
theorem os_isB : OpS K rIsB gIs := OpS.here fun Z H d1 d2 v1 v2 F1 F2 d Q r1 r2 hg q => by
  unfold gIs at hg
  split at hg
  · cases hg
    exact ⟨_, _, r1.bl_inv, r2.bl_inv, q _ (.bl _)⟩
  · cases hg
theorem os_notB : OpS K rNotB gIsNot := OpS.here fun Z H d1 d2 v1 v2 F1 F2 d Q r1 r2 hg q => by
  unfold gIsNot at hg
  split at hg
  · cases hg
    exact ⟨_, _, r1.bl_inv, r2.bl_inv, q _ (.bl _)⟩
  · cases hg
def isNon : D → Bool
  | .non => true
  | _ => false
def gIsN (d e : D) : Option D := match e with
  | .non => some (.bl (isNon d))
  | _ => none
def gNotN (d e : D) : Option D := match e with
  | .non => some (.bl (!isNon d))
  | _ => none
theorem R.isNon {d : D} {v : V} {F : List Addr} (r : R K Z H d v F) : decide (v = .non) = Vl.isNon d := by
  cases r <;> simp [Vl.isNon]
theorem os_isN : OpS K (fun x y H Q => y = .non ∧ Q (.bl (decide (x = .non))) H) gIsN := OpS.here fun Z H d1 d2 v1 v2 F1 F2 d Q r1 r2 hg q => by
  unfold gIsN at hg
  split at hg
  · cases hg
    exact ⟨r2.non_inv, by rw [r1.isNon]; exact q _ (.bl _)⟩
  · cases hg
theorem os_notN : OpS K (fun x y H Q => y = .non ∧ Q (.bl (!decide (x = .non))) H) gNotN := OpS.here fun Z H d1 d2 v1 v2 F1 F2 d Q r1 r2 hg q => by
  unfold gNotN at hg
  split at hg
  · cases hg
    exact ⟨r2.non_inv, by rw [r1.isNon]; exact q _ (.bl _)⟩
  · cases hg

/-! ### isinstance -/
def tagOf : D → String
  | .non => "NoneType"
  | .bl _ => "bool"
  | .int _ => "int"
  | .str _ => "str"
  | .tup _ => "tuple"
  | .lst _ _ => "list"
  | .dct _ _ _ => "dict"
  | .scr _ => "list"
def fIsi (T : String) (f : M D) : M D := fun ρ => (f ρ).bind fun p => (kitB (tagOf p.1) T).bind fun b => some (.bl b, p.2)
theorem sqt_ty {a : Addr} {vs : List V} (h : SqT K H a vs) : TyX K H (.ref a) (.type "tuple") := by
  rcases h with (h | ⟨o, h⟩) | ⟨o, its, n, h1, h2, _⟩
  · exact .base (.tup h)
  · exact .fTuple h
  · exact .kTuple h1 h2
theorem sqf_ty {a : Addr} {vs : List V} (h : SqF K H a vs) : TyX K H (.ref a) (.type "list") := by
  rcases h with ⟨o, h⟩ | ⟨o, its, n, h1, h2, _⟩
  · exact .base (.frz h)
  · exact .kList h1 h2
def notLk : D → Bool
  | .dct false _ _ => false
  | _ => true
theorem R.ty {d : D} {v : V} {F : List Addr} (r : R K Z H d v F) (hn : notLk d = true) : TyX K H v (.type (tagOf d)) := by
  cases r with
  | non => exact .base .non
  | bl b => exact .base (.bl b)
  | int i => exact .base (.int i)
  | str s => exact .base (.str s)
  | tup h _ => exact sqt_ty h
  | own h _ => exact .base (.lst h)
  | fzn h _ _ => exact .base (.lst h)
  | knw h _ => exact sqf_ty h
  | dow h _ =>
    obtain ⟨o, h1, h2⟩ := h
    unfold DcH at h2
    split at h2
    · obtain ⟨ks, e, _⟩ := h2; subst e; exact .base (.dK h1)
    · obtain ⟨ks, e, _⟩ := h2; subst e; exact .base (.dT h1)
  | dfz _ _ _ => cases hn
  | dlk _ _ => cases hn
theorem pev_isi {T O : List Nat} {x : Bool} {e : Expr} {f : M D} {pos p pc : Pos} {cn : Str} (c : String) (hgc : Gl X cn) (hmc : X.mg cn = none) (hvc : bootBuiltins cn = some (.type c)) (hg : Gl X "isinstance") (hm : X.mg "isinstance" = none)
    (he : PEV X T O x e f) (hn : cn ≠ "__name__" := by decide) (hd : (cn == ("__debug__" : Str)) = false := by decide)
    (hs1 : starEach [e, .Name cn pc] X.env = (false, eval e X.env) :: starEach [.Name cn pc] X.env := by rfl) (hs2 : starEach [.Name cn pc] X.env = (false, eval (.Name cn pc) X.env) :: starEach [] X.env := by rfl) (hpl : (backTo pos (starEach [.Name cn pc] X.env)).any (·.1) = false := by rfl) :
    PEV X T [] true (.Call (.Name "isinstance" p) [e, .Name cn pc] [] pos) (fun ρ => (f ρ).bind fun p => if notLk p.1 = true then (kitB (tagOf p.1) c).bind fun b => some (.bl b, p.2) else none) := by
  refine PE.imp (pe_callB call_isi hg hm (by decide +kernel) (pa_cons he (pa_cons (pe_bltn (v := .ty c) hgc hmc hvc rfl hn hd) pa_nil hs2) hs1) (by decide) (by decide) hs1 hpl) fun σ H Q h => ?_
  obtain ⟨Z, ρ, Fs, d, ρ', rel, hf, q⟩ := h
  obtain ⟨⟨d1, ρ1⟩, h1, hf⟩ := Option.bind_eq_some_iff.mp hf
  split at hf
  · rename_i hnl
    obtain ⟨b, h2, hf⟩ := Option.bind_eq_some_iff.mp hf
    cases hf
    exact ⟨Z, ρ, Fs, d1, _, rel, h1, fun v H' Z' Fs' F rel' f' w c' => ⟨v, .ty c, _, _, b, rfl, .ty c, w.r.ty hnl, kit_ty h2, q _ H' Z' Fs' [] rel' f' ⟨.bl b, fun _ _ h => (by cases h), fun _ => ⟨List.nodup_nil, fun _ h => (by cases h)⟩⟩ Cf.nil⟩⟩
  · cases hf

/-! ### tuple(range(..)), list(range(..)) -/
def tVR (K : PySem.W.Frag) (T : List Nat) (f : M (Int × Int)) : L2.St → Hp → (Int → Int → Hp → Prop) → Prop := fun σ H Q => ∃ Z ρ Fs o ρ', Rel K Z ρ σ H Fs ∧ f ρ = some (o, ρ') ∧
  ∀ H' Z' Fs', Rel K Z' ρ' σ H' Fs' → Frm T Z ρ Fs H Z' ρ' Fs' H' → Q o.1 o.2 H'
abbrev PRV (X : Cx) (T : List Nat) (e : Expr) (f : M (Int × Int)) : Prop := PRg X e (tVR X.K T f)
theorem PRg.imp {e : Expr} {t t' : L2.St → Hp → (Int → Int → Hp → Prop) → Prop} (h : PRg X e t) (i : ∀ σ H Q, t' σ H Q → t σ H Q) : PRg X e t' := fun pins s σ H Q I q => h pins s σ H Q I (i σ H Q q)
def rRg1 (f : M D) : M (Int × Int) := fun ρ => (f ρ).bind fun p => match p.1 with
  | .int n => some ((0, n), p.2)
  | _ => none
def rRg2 (O1 T2 : List Nat) (f g : M D) : M (Int × Int) := fun ρ => (f ρ).bind fun p => (g p.2).bind fun q => match p.1, q.1 with
  | .int i, .int j => some ((i, j), q.2)
  | _, _ => none
section
variable {T T1 T2 O O1 O2 : List Nat} {x x1 x2 : Bool} {a b e : Expr} {f fa fb : M D} {fr : M (Int × Int)} {p pos : Pos}
theorem prv_1 (hg : Gl X "range") (hm : X.mg "range" = none) (ha : PEV X T O x a f) (na : starEach [a] X.env = (false, eval a X.env) :: starEach [] X.env := by rfl) : PRV X T (.Call (.Name "range" p) [a] [] pos) (rRg1 f) := by
  refine PRg.imp (prg_1 hg hm ha na) fun σ H Q h => ?_
  obtain ⟨Z, ρ, Fs, o, ρ', rel, hf, q⟩ := h
  unfold rRg1 at hf
  obtain ⟨⟨d1, ρ1⟩, h1, hf⟩ := Option.bind_eq_some_iff.mp hf
  split at hf
  · rename_i n e
    cases hf
    have e : d1 = .int n := e
    subst e
    exact ⟨Z, ρ, Fs, _, _, rel, h1, fun v H' Z' Fs' F rel' f' w c' => ⟨n, w.r.int_inv, q H' Z' Fs' rel' f'⟩⟩
  · cases hf
theorem prv_2 (hg : Gl X "range") (hm : X.mg "range" = none) (ha : PEV X T1 O1 x1 a fa) (hb : PEV X T2 O2 x2 b fb) (na : starEach [a, b] X.env = (false, eval a X.env) :: starEach [b] X.env := by rfl) (nb : starEach [b] X.env = (false, eval b X.env) :: starEach [] X.env := by rfl) :
    PRV X (T1 ++ T2) (.Call (.Name "range" p) [a, b] [] pos) (rRg2 O1 T2 fa fb) := by
  refine PRg.imp (prg_2 hg hm ha hb na nb (by rw [nb]; rfl)) fun σ H Q h => ?_
  obtain ⟨Z, ρ, Fs, o, ρ', rel, hf, q⟩ := h
  unfold rRg2 at hf
  obtain ⟨⟨d1, ρ1⟩, h1, hf⟩ := Option.bind_eq_some_iff.mp hf
  obtain ⟨⟨d2, ρ2⟩, h2, hf⟩ := Option.bind_eq_some_iff.mp hf
  split at hf
  · rename_i i j e1 e2
    cases hf
    have e1 : d1 = .int i := e1
    have e2 : d2 = .int j := e2
    subst e1 e2
    exact ⟨Z, ρ, Fs, _, _, rel, h1, fun v H' Z' Fs' F rel' f' w c' => ⟨Z', ρ1, Fs', _, _, rel', h2, fun v2 H2 Z2 Fs2 F2 rel2 f2 w2 c2 => ⟨i, j, w.r.int_inv, w2.r.int_inv, q H2 Z2 Fs2 rel2 (f'.trans f2)⟩⟩⟩
  · cases hf
def okRg (i j : Int) : Bool := okR i && okR j && decide ((j - i).toNat ≤ 100000)
theorem okRg_of {i j : Int} (h : okRg i j = true) : RgOk i j := by
  unfold okRg at h
  rw [Bool.and_eq_true, Bool.and_eq_true] at h
  obtain ⟨h1, h2⟩ := okR_of h.1.1
  obtain ⟨h3, h4⟩ := okR_of h.1.2
  have h5 := of_decide_eq_true h.2
  exact ⟨by omega, by omega, by omega, by omega, by omega⟩
theorem Rs.rg (i j : Int) : Rs K Z H (rgItems i (j - i).toNat) (rgV i j) [] := by
  unfold rgItems rgV
  generalize (j - i).toNat = n
  generalize List.range n = l
  induction l with
  | nil => exact .nil
  | cons k l ih => exact .cons0 (.int _) ih
def fTupRg (fr : M (Int × Int)) : M D := fun ρ => (fr ρ).bind fun p => if okRg p.1.1 p.1.2 = true then some (.tup (rgItems p.1.1 (p.1.2 - p.1.1).toNat), p.2) else none
def fLstRg (fr : M (Int × Int)) : M D := fun ρ => (fr ρ).bind fun p => if okRg p.1.1 p.1.2 = true then some (.lst true (rgItems p.1.1 (p.1.2 - p.1.1).toNat), p.2) else none
theorem pev_tupRg (hc : X.calm = true) (hg : Gl X "tuple") (hm : X.mg "tuple" = none) (he : PRV X T e fr) (na : starEach [e] X.env = (false, eval e X.env) :: starEach [] X.env := by rfl) : PEV X T [] true (.Call (.Name "tuple" p) [e] [] pos) (fTupRg fr) := by
  refine PE.imp (pe_tupRg hc hg hm he na) fun σ H Q h => ?_
  obtain ⟨Z, ρ, Fs, d, ρ', rel, hf, q⟩ := h
  unfold fTupRg at hf
  obtain ⟨⟨⟨i, j⟩, ρ1⟩, h1, hf⟩ := Option.bind_eq_some_iff.mp hf
  split at hf
  · rename_i ho
    cases hf
    refine ⟨Z, ρ, Fs, _, _, rel, h1, fun H' Z' Fs' rel' f' => ⟨okRg_of ho, fun p hp => ?_⟩⟩
    refine new_tup hp (Rs.rg (K := X.K) (Z := Z') i j) fun v H2 F k r nd nw => ?_
    have fz := f'.trans (Frm.pureT [] k)
    rw [List.append_nil] at fz
    exact q v H2 Z' Fs' F (rel'.keep0 k) fz (Val.new rel' r nd nw) (Cf.new f'.keep nw)
  · cases hf
theorem pev_lstRg (hc : X.calm = true) (hg : Gl X "list") (hm : X.mg "list" = none) (he : PRV X T e fr) (na : starEach [e] X.env = (false, eval e X.env) :: starEach [] X.env := by rfl) : PEV X T [] true (.Call (.Name "list" p) [e] [] pos) (fLstRg fr) := by
  refine PE.imp (pe_listRg hc hg hm he na) fun σ H Q h => ?_
  obtain ⟨Z, ρ, Fs, d, ρ', rel, hf, q⟩ := h
  unfold fLstRg at hf
  obtain ⟨⟨⟨i, j⟩, ρ1⟩, h1, hf⟩ := Option.bind_eq_some_iff.mp hf
  split at hf
  · rename_i ho
    cases hf
    refine ⟨Z, ρ, Fs, _, _, rel, h1, fun H' Z' Fs' rel' f' => ⟨okRg_of ho, fun p hp => ?_⟩⟩
    refine new_list hp (Rs.rg (K := X.K) (Z := Z') i j) fun v H2 F k r nd nw => ?_
    have fz := f'.trans (Frm.pureT [] k)
    rw [List.append_nil] at fz
    exact q v H2 Z' Fs' F (rel'.keep0 k) fz (Val.new rel' r nd nw) (Cf.new f'.keep nw)
  · cases hf
end

/-! ### methods that change the list or dict of a slot -/
def MtU (K : PySem.W.Frag) (r : V → List V → Hp → VK → Prop) (g : D → List D → Option (D × D)) : Prop := ∀ (Z : Addr → Prop) (H : Hp) (d0 : D) (v0 : V) (F0 : List Addr) (ds : List D) (vs : List V) (F : List Addr) (d d' : D) (Q : VK),
  R K Z H d0 v0 F0 → Rs K Z H ds vs F → (F0 ++ F).Nodup → (∀ a ∈ F0 ++ F, ¬ Z a) → (∀ a, Z a → H a ≠ none) → g d0 ds = some (d, d') →
  (∀ v H' F' F0', Keep (fun a => a ∈ F0) H H' → R K Z H' d v F' → R K Z H' d' v0 F0' → (F' ++ F0').Nodup → (∀ a ∈ F' ++ F0', a ∈ F0 ∨ a ∈ F ∨ H a = none) → Q v H') → r v0 vs H Q
def tyIs (T : String) : D → Bool
  | .lst _ _ => T == "list"
  | .dct true _ _ => T == "dict"
  | .str _ => T == "str"
  | _ => false
theorem R.tyV {T : String} {d : D} {v : V} {F : List Addr} (r : R K Z H d v F) (h : tyIs T d = true) : L2.tyV K T v H := by
  cases r with
  | non => cases h
  | bl b => cases h
  | int i => cases h
  | str s => exact eq_of_beq h
  | tup _ _ => cases h
  | own e _ => exact .inl ⟨eq_of_beq h, _, SqL.of e⟩
  | fzn e _ _ => exact .inl ⟨eq_of_beq h, _, SqL.of e⟩
  | knw _ _ => cases h
  | dow e _ =>
    refine .inr (.inr (.inl ⟨eq_of_beq h, ?_⟩))
    obtain ⟨o, h1, h2⟩ := e
    unfold DcH at h2
    split at h2
    · obtain ⟨ks, e, _⟩ := h2; subst e; exact .inl ⟨_, h1⟩
    · obtain ⟨ks, e, _⟩ := h2; subst e; exact .inr ⟨_, h1⟩
  | dfz _ _ _ => cases h
  | dlk _ _ => cases h
def fMut (i : Nat) (ty : String) (g : D → List D → Option (D × D)) (fr : M (List D)) : M D := fun ρ => (Env.at ρ i).bind fun o => if tyIs ty o = true then (fr ρ).bind fun p => (Env.at p.2 i).bind fun o' => (g o' p.1).bind fun q => some (q.1, p.2.set i (some q.2)) else none
section
variable {T O : List Nat} {e : Expr} {es : List Expr} {fr : M (List D)} {pos : Pos}
theorem mut_end {Z Z1 : Addr → Prop} {ρ ρ1 : Env} {Fs Fs1 : Ft} {H H1 H' : Hp} {σ : L2.St} {i : Nat} {d' : D} {v0 : V} {F F' F0' : List Addr} (rel1 : Rel K Z1 ρ1 σ H1 Fs1) (f1 : Frm T Z ρ Fs H Z1 ρ1 Fs1 H1) (c1 : Cf T Fs H true F)
    (hF : ∀ j a, a ∈ F → a ∉ Fs1 j) (hnz : ∀ a ∈ F, ¬ Z1 a) (hv0 : σ[i]? = some (some v0)) (hil : i < ρ1.length) (k : Keep (fun a => a ∈ Fs1 i) H1 H') (r' : R K Z1 H' d' v0 F0') (nd : (F' ++ F0').Nodup) (cf : ∀ a ∈ F' ++ F0', a ∈ Fs1 i ∨ a ∈ F ∨ H1 a = none) :
    Rel K Z1 (ρ1.set i (some d')) σ H' (fun j => if j = i then F0' else Fs1 j) ∧ Frm (T ++ [i]) Z ρ Fs H Z1 (ρ1.set i (some d')) (fun j => if j = i then F0' else Fs1 j) H' ∧
    (∀ j a, a ∈ F' → a ∉ (fun j => if j = i then F0' else Fs1 j) j) ∧ (∀ a ∈ F' ++ F0', ¬ Z1 a) ∧ Cf (T ++ [i]) Fs H true F' := by
  obtain ⟨nd1, nd2, nd12⟩ := List.nodup_append.mp nd
  have far : ∀ {j a}, j ≠ i → a ∈ Fs1 j → a ∉ F' ++ F0' := fun {j a} hj ha hm => by
    rcases cf a hm with z | z | z
    · exact hj (rel1.dj j i a ha z)
    · exact hF j a z ha
    · exact rel1.ft j a ha z
  have nz : ∀ a ∈ F' ++ F0', ¬ Z1 a := fun a hm h => by
    rcases cf a hm with z | z | z
    · exact rel1.nz i a z h
    · exact hnz a z h
    · exact rel1.zt a h z
  have up : ∀ {a}, (∃ j ∈ T, a ∈ Fs j) → ∃ j ∈ T ++ [i], a ∈ Fs j := fun ⟨j, hj, h⟩ => ⟨j, List.mem_append_left _ hj, h⟩
  have own1 : ∀ {a}, a ∈ Fs1 i → (∃ j ∈ T ++ [i], a ∈ Fs j) ∨ H a = none := fun {a} h => by
    by_cases q : i ∈ T
    · exact (f1.c1 i q a h).imp up id
    · rw [(f1.sub i q).1] at h
      exact .inl ⟨i, List.mem_append_right _ List.mem_cons_self, h⟩
  have conf : ∀ a ∈ F' ++ F0', (∃ j ∈ T ++ [i], a ∈ Fs j) ∨ H a = none := fun a hm => by
    rcases cf a hm with z | z | z
    · exact own1 z
    · exact (c1 rfl a z).imp up id
    · exact .inr (f1.keep.back z)
  refine ⟨⟨fun j d e => ?_, fun j => ?_, fun j m a h1 h2 => ?_, fun j a h => ?_, fun a h => k.dom a (rel1.zt a h), fun j a h => ?_, by rw [List.length_set]; exact rel1.len⟩,
    ⟨fun j hj => ?_, f1.keep.trans k (fun a h => up h) fun a h => own1 h, fun j hj a ha => ?_, fun a h => (f1.c3 a h).imp id fun h => h.imp up id, f1.zz, by rw [List.length_set]; exact f1.len⟩, fun j a h1 h2 => ?_, nz, fun _ a ha => conf a (List.mem_append_left _ ha)⟩
  · by_cases q : j = i
    · subst q
      rw [List.getElem?_set_self hil] at e
      cases e
      simp only [if_pos rfl]
      exact ⟨v0, hv0, r'⟩
    · rw [List.getElem?_set_ne (Ne.symm q)] at e
      simp only [if_neg q]
      obtain ⟨v, h1, h2⟩ := rel1.at_ j d e
      exact ⟨v, h1, h2.keep k (fun _ h => h) (fun a z h => rel1.nz i a h z) fun a ha h => q (rel1.dj j i a ha h)⟩
  · by_cases q : j = i
    · simp only [if_pos q]; exact nd2
    · simp only [if_neg q]; exact rel1.nd j
  · by_cases q : j = i
    · by_cases p : m = i
      · rw [q, p]
      · simp only [if_pos q] at h1
        simp only [if_neg p] at h2
        exact absurd (List.mem_append_right _ h1) (far p h2)
    · by_cases p : m = i
      · simp only [if_neg q] at h1
        simp only [if_pos p] at h2
        exact absurd (List.mem_append_right _ h2) (far q h1)
      · simp only [if_neg q] at h1
        simp only [if_neg p] at h2
        exact rel1.dj j m a h1 h2
  · by_cases q : j = i
    · simp only [if_pos q] at h; exact nz a (List.mem_append_right _ h)
    · simp only [if_neg q] at h; exact rel1.nz j a h
  · by_cases q : j = i
    · simp only [if_pos q] at h; exact r'.tr a h
    · simp only [if_neg q] at h; exact k.dom a (rel1.ft j a h)
  · have q : j ≠ i := fun e => hj (by rw [e]; exact List.mem_append_right _ List.mem_cons_self)
    have h := f1.sub j fun z => hj (List.mem_append_left _ z)
    exact ⟨(if_neg q).trans h.1, (List.getElem?_set_ne (Ne.symm q)).trans h.2⟩
  · by_cases q : j = i
    · simp only [if_pos q] at ha
      exact conf a (List.mem_append_right _ ha)
    · simp only [if_neg q] at ha
      rcases List.mem_append.mp hj with hj | hj
      · exact (f1.c1 j hj a ha).imp up id
      · exact absurd (by simpa using hj) q
  · by_cases q : j = i
    · simp only [if_pos q] at h2
      exact nd12 a h1 a h2 rfl
    · simp only [if_neg q] at h2
      exact far q h2 (List.mem_append_left _ h1)
theorem tv_mut (i : Nat) {ty : String} {r : V → List V → Hp → VK → Prop} {g : D → List D → Option (D × D)} (hm : MtU X.K r g) {σ : L2.St} {H : Hp} {Q : VK} (h : tV X.K (T ++ [i]) [] true (fMut i ty g fr) σ H Q) : tBM X.K ty r (tVar i) (tVL X.K T [] true fr) σ H Q := by
  obtain ⟨Z, ρ, Fs, d, ρ', rel, hf, q⟩ := h
  unfold fMut at hf
  obtain ⟨o, h0, hf⟩ := Option.bind_eq_some_iff.mp hf
  split at hf
  · rename_i hty
    obtain ⟨⟨ds, ρ1⟩, h1, hf⟩ := Option.bind_eq_some_iff.mp hf
    obtain ⟨o', h2, hf⟩ := Option.bind_eq_some_iff.mp hf
    obtain ⟨⟨d1, d'⟩, h3, hf⟩ := Option.bind_eq_some_iff.mp hf
    cases hf
    obtain ⟨v0, hv0, r0⟩ := rel.at_ i o (Env.at_some h0)
    refine ⟨v0, hv0, r0.tyV hty, Z, ρ, Fs, ds, ρ1, rel, h1, fun vs H1 Z1 Fs1 F rel1 f1 w1 c1 => ?_⟩
    have hio := Env.at_some h2
    obtain ⟨v1, hv1, r1⟩ := rel1.at_ i o' hio
    rw [hv0] at hv1
    cases hv1
    obtain ⟨ndF, nzF⟩ := w1.exc rfl
    refine hm Z1 H1 o' v0 (Fs1 i) ds vs F d1 d' Q r1 w1.r (List.nodup_append.mpr ⟨rel1.nd i, ndF, fun a ha b hb e => ?_⟩) (fun a ha => ?_) rel1.zt h3 fun v H' F' F0' k rd rd' nd cf => ?_
    · subst e
      exact absurd (w1.ori i a hb ha) (by simp)
    · rcases List.mem_append.mp ha with ha | ha
      · exact rel1.nz i a ha
      · exact nzF a ha
    · obtain ⟨e1, e2, e3, e4, e5⟩ := mut_end rel1 f1 c1 (fun j a h1 h2 => absurd (w1.ori j a h1 h2) (by simp)) nzF hv0 (Env.lt hio) k rd' nd cf
      exact q v H' Z1 _ F' e1 e2 ⟨rd, fun j a h1 h2 => absurd h2 (e3 j a h1), fun _ => ⟨(List.nodup_append.mp nd).1, fun a ha => e4 a (List.mem_append_left _ ha)⟩⟩ e5
  · cases hf
end
end
end Vl

namespace Vl
open PySem PySem.Spec PyProof.Rows L2 AutoSeq1
theorem list_extend_tupW (l : Addr) (items : Array Value) (n : Nat) (b : Addr) (items2 : Array Value) (n2 : Nat) (dd : Option Addr) (sl : Array (Option Value)) (hs0 : ¬(!items.isEmpty && Builtin.List.listTooLong (items.size + items2.size)) = true) (hs1 : items.size ≤ sizeLine) (hs2 : items.size + items2.size ≤ sizeLine + 1) :
    Meets (Builtin.«list.extend» ⟨[.ref l, .ref b], []⟩) (fun _ R s => s.heap.get? l = some { cls := .type "list", dict := none, data := .seq items n, slots := #[] } ∧ s.heap.get? b = some { cls := .type "tuple", dict := dd, data := .seq items2 n2, slots := sl } ∧ R (.ok (.ret Value.none)) { s with heap := s.heap.update l (Obj.mapSeq fun x => x ++ items2), toks := s.toks }) :=
  .of_wp fun prog w A R s h => by
    obtain ⟨hp, g, d, tk, os⟩ := s; obtain ⟨hl, hb, h⟩ := h; have f1 := AutoSeq1.idx_int; have f2 := AutoSeq1.sub_tuple_tuple; have f3 := AutoSeq1.sub_list_list; have f4 := AutoSeq1.sub_tuple_list; have f5 := AutoSeq1.sub_list_tuple
    have hz' : (items ++ items2).size ≤ sizeLine + 1 := by rw [Array.size_append]; exact hs2
    wp_walk using (wpAny_updateSeq hl rfl (hz := hs1) (_hz' := hz')), wpAny_loadPart' hl, wpAny_loadPart' hb
    exact ⟨_, rfl, h⟩
/-- list.extend of a tuple -/
def rExtendT (K : PySem.W.Frag) : V → List V → Hp → VK → Prop := fun x vs H Q => ∃ l b xs zs, x = .ref l ∧ vs = [.ref b] ∧ H l = some (.lst xs) ∧ SqT K H b zs ∧ xs.length + zs.length ≤ sizeLine ∧ Q .non (upd H l (.lst (xs ++ zs)))
theorem mt_extendT {X : Cx} : MtM X "list.extend" (rExtendT X.K) := by
  intro pins s σ H x vs v us Q I rx rv h
  obtain ⟨l, b, xs, zs, rfl, rfl, hH, hB, hz, q⟩ := h
  cases rx
  obtain ⟨u, rfl, ru⟩ := rv.one
  cases ru
  obtain ⟨z, its, n, r, hl, e⟩ := I.lstM hH
  obtain ⟨its2, r2, ⟨⟨cls, dd, data, sl⟩, ho, hc, n2, hd⟩, hs⟩ := I.tuple hB
  simp only at hc hd
  subst hc hd
  have hl2 := r2.length
  have hsz : its.toArray.size + its2.toArray.size ≤ sizeLine := by rw [List.size_toArray, List.size_toArray]; omega
  have hlong : ¬ (!its.toArray.isEmpty && Builtin.List.listTooLong (its.toArray.size + its2.toArray.size)) = true := by
    rw [notLongL hsz, Bool.and_false]
    exact Bool.false_ne_true
  refine call_meets F.slot_list_extend ⟨_, e, rfl⟩ F.entry_list_extend (F.args_list_extend_2 _ _)
    (list_extend_tupW l its.toArray n b its2.toArray n2 dd sl hlong (by rw [List.size_toArray]; omega) (by omega)) ⟨e, ho, ?_⟩
  refine ⟨.non, _, I.lset (its' := its ++ its2) hH e (by simp) (r.append r2) ?_, rfl, q⟩
  rw [List.length_append]
  omega
end Vl

namespace Vl
open PySem PySem.Spec PyProof.Rows L2

section
variable {X : Cx} {K : PySem.W.Frag} {Z : Addr → Prop} {H : Hp}
def gAppend (d0 : D) (ds : List D) : Option (D × D) := match d0, ds with
  | .lst true l, [d] => if szOk l.length = true then some (.non, .lst true (l ++ [d])) else none
  | _, _ => none
theorem mu_append : MtU K rAppend gAppend := fun Z H d0 v0 F0 ds vs F d d' Q r0 rs nd nz zt hg q => by
  unfold gAppend at hg
  split at hg
  · split at hg
    · rename_i l e hz
      cases hg
      obtain ⟨a, ws, G, rfl, rfl, ha, ra⟩ := r0.own_inv
      obtain ⟨v, rfl, rv⟩ := rs.one_inv
      refine ⟨a, ws, v, rfl, rfl, ha, by rw [← ra.length]; exact sz_lt hz, ?_⟩
      have k : Keep (fun b => b = a) H (upd H a (.lst (ws ++ [v]))) := Keep.wr ha trivial
      obtain ⟨n1, n2⟩ := List.nodup_cons.mp (show (a :: (G ++ F)).Nodup from nd)
      have hz' : ∀ b, Z b → ¬ b = a := fun b z e => nz a List.mem_cons_self (by rw [← e]; exact z)
      refine q .non _ [] (a :: (G ++ F)) (k.mono fun b e => by rw [e]; exact List.mem_cons_self) .non (.own upd_same ?_) (by rw [List.nil_append]; exact nd) fun b hb => ?_
      · exact Rs.app (ra.keep k (fun _ h => h) hz' fun b hb e => n1 (by rw [← e]; exact List.mem_append_left _ hb)) (Rs.one (rv.keep k (fun _ h => h) hz' fun b hb e => n1 (by rw [← e]; exact List.mem_append_right _ hb)))
      · rcases List.mem_cons.mp hb with e | hb
        · exact .inl (by rw [e]; exact List.mem_cons_self)
        · rcases List.mem_append.mp hb with hb | hb
          · exact .inl (List.mem_cons_of_mem _ hb)
          · exact .inr (.inl hb)
    · cases hg
  · cases hg
/-- an own list is written: shared items alone -/
theorem upd_own {d : D} {a : Addr} {ws ws' : List V} {l' : List D} {v : V} {Q : VK} {F : List Addr} (ha : H a = some (.lst ws)) (hz : ∀ b, Z b → ¬ b = a) (nd : a ∉ F) (ndF : F.Nodup) (rv : R K Z H d v F) (rl : Rs K Z H l' ws' [])
    (q : ∀ v H' F' F0', Keep (fun b => b ∈ [a]) H H' → R K Z H' d v F' → R K Z H' (.lst true l') (.ref a) F0' → (F' ++ F0').Nodup → (∀ b ∈ F' ++ F0', b ∈ [a] ∨ b ∈ F ∨ H b = none) → Q v H') : Q v (upd H a (.lst ws')) := by
  have k : Keep (fun b => b = a) H (upd H a (.lst ws')) := Keep.wr ha trivial
  refine q v _ F [a] (k.mono fun b e => by rw [e]; exact List.mem_cons_self) (rv.keep k (fun _ h => h) hz fun b hb e => nd (by rw [← e]; exact hb)) (.own upd_same (rl.keep k (fun _ h => h) hz fun b hb => (by cases hb))) ?_ fun b hb => ?_
  · exact List.nodup_append.mpr ⟨ndF, by simp, fun x hx y hy e => nd (by have e2 : y = a := List.mem_singleton.mp hy; exact e2 ▸ e ▸ hx)⟩
  · rcases List.mem_append.mp hb with hb | hb
    · exact .inr (.inl hb)
    · exact .inl hb
theorem Rs.dropLast0 : ∀ {ds : List D} {vs : List V}, Rs K Z H ds vs [] → Rs K Z H ds.dropLast vs.dropLast [] := fun {ds vs} r => by
  rw [List.dropLast_eq_take, List.dropLast_eq_take, r.length]
  exact r.take0 _
theorem Rs.erase0 : ∀ {ds : List D} {vs : List V} (n : Nat), Rs K Z H ds vs [] → Rs K Z H (ds.eraseIdx n) (vs.eraseIdx n) []
  | [], [], n, r => r
  | [], v :: vs, n, r => nomatch r
  | d :: ds, [], n, r => nomatch r
  | d :: ds, v :: vs, n, r => by
    obtain ⟨v', ws, F1, F2, e1, e2, r1, r2⟩ := r.uncons
    cases e1
    obtain ⟨e3, e4⟩ := app_eq_nil e2.symm
    subst e3 e4
    cases n with
    | zero => exact r2
    | succ n => exact .cons0 r1 (Rs.erase0 n r2)
theorem Rs.set0 {e : D} {w : V} (re : R K Z H e w []) : ∀ {ds : List D} {vs : List V} (n : Nat), Rs K Z H ds vs [] → Rs K Z H (ds.set n e) (vs.set n w) []
  | [], [], n, r => r
  | [], v :: vs, n, r => nomatch r
  | d :: ds, [], n, r => nomatch r
  | d :: ds, v :: vs, n, r => by
    obtain ⟨v', ws, F1, F2, e1, e2, r1, r2⟩ := r.uncons
    cases e1
    obtain ⟨e3, e4⟩ := app_eq_nil e2.symm
    subst e3 e4
    cases n with
    | zero => exact .cons0 re r2
    | succ n => exact .cons0 r1 (Rs.set0 re n r2)
def gPop (d0 : D) (ds : List D) : Option (D × D) := match d0, ds with
  | .lst true l, [] => if D.noOwnL l = true then (l[l.length - 1]?).bind fun d => some (d, .lst true l.dropLast) else none
  | _, _ => none
theorem mu_pop : MtU K rPop gPop := fun Z H d0 v0 F0 ds vs F d d' Q r0 rs nd nz zt hg q => by
  unfold gPop at hg
  split at hg
  · split at hg
    · rename_i l hn
      obtain ⟨e, he, hg⟩ := Option.bind_eq_some_iff.mp hg
      cases hg
      obtain ⟨a, ws, G, rfl, rfl, ha, ra⟩ := r0.own_inv
      have e0 := ra.no hn
      subst e0
      cases rs
      obtain ⟨v, G2, h1, h2, h3⟩ := ra.get he
      have e2 : G2 = [] := by
        cases G2 with
        | nil => rfl
        | cons x r => exact absurd (h3 x List.mem_cons_self) (by simp)
      subst e2
      rw [ra.length] at h1
      exact ⟨a, ws, v, rfl, rfl, ha, h1, upd_own ha (fun b z e => nz a List.mem_cons_self (by rw [← e]; exact z)) (by simp) List.nodup_nil h2 ra.dropLast0 q⟩
    · cases hg
  · cases hg
def gPopAt (d0 : D) (ds : List D) : Option (D × D) := match d0, ds with
  | .lst true l, [.int i] => if (D.noOwnL l && szOk l.length) = true then (ixN l.length i).bind fun k => (l[k]?).bind fun d => some (d, .lst true (l.eraseIdx k)) else none
  | _, _ => none
theorem mu_popAt : MtU K rPopAt gPopAt := fun Z H d0 v0 F0 ds vs F d d' Q r0 rs nd nz zt hg q => by
  unfold gPopAt at hg
  split at hg
  · split at hg
    · rename_i l i hn
      obtain ⟨k, hk, hg⟩ := Option.bind_eq_some_iff.mp hg
      obtain ⟨e, he, hg⟩ := Option.bind_eq_some_iff.mp hg
      cases hg
      rw [Bool.and_eq_true] at hn
      obtain ⟨a, ws, G, rfl, rfl, ha, ra⟩ := r0.own_inv
      have e0 := ra.no hn.1
      subst e0
      have hvs := rs.ints1
      obtain ⟨v, G2, h1, h2, h3⟩ := ra.get he
      have e2 : G2 = [] := by
        cases G2 with
        | nil => rfl
        | cons x r => exact absurd (h3 x List.mem_cons_self) (by simp)
      subst e2
      obtain ⟨s1, s2, s3, s4⟩ := ixN_seq hk
      have hz : l.length ≤ 100000 := of_decide_eq_true hn.2
      refine ⟨a, ws, i, k, v, rfl, hvs, ha, by omega, by omega, by rw [← ra.length]; exact s1, h1, ?_⟩
      refine upd_own ha (fun b z e => nz a List.mem_cons_self (by rw [← e]; exact z)) (by simp) List.nodup_nil h2 (ra.erase0 k) fun v H' F' F0' k r1 r2 n1 n2 => q v H' F' F0' k r1 r2 n1 fun b hb => (n2 b hb).imp id fun h => h.elim (fun h => (by cases h)) .inr
    · cases hg
  · cases hg
def rExtB (K : PySem.W.Frag) : V → List V → Hp → VK → Prop := fun x vs H Q => rExtend x vs H Q ∨ rExtendT K x vs H Q
theorem mt_extB {X : Cx} : MtR X "list.extend" (rExtB X.K) := MtR.or mt_extend mt_extendT
def gExtL (l m : List D) : Option (D × D) := if (D.noOwnL l && D.noOwnL m && szOk (l.length + m.length)) = true then some (.non, .lst true (l ++ m)) else none
def gExtend (d0 : D) (ds : List D) : Option (D × D) := match d0, ds with
  | .lst true l, [.lst _ m] => gExtL l m
  | .lst true l, [.tup m] => gExtL l m
  | _, _ => none
theorem mu_extend : MtU K (rExtB K) gExtend := fun Z H d0 v0 F0 ds vs F d d' Q r0 rs nd nz zt hg q => by
  have q' := fun v H' F' F0' k r1 r2 n1 (n2 : ∀ b ∈ F' ++ F0', b ∈ F0 ∨ b ∈ [] ∨ H b = none) => q v H' F' F0' k r1 r2 n1 fun b hb => (n2 b hb).imp id fun h => h.elim (fun h => (by cases h)) .inr
  unfold gExtend at hg
  split at hg
  · rename_i l o m
    unfold gExtL at hg
    split at hg
    · rename_i h
      cases hg
      rw [Bool.and_eq_true, Bool.and_eq_true] at h
      obtain ⟨⟨h1, h2⟩, h3⟩ := h
      obtain ⟨a, ws, G, rfl, rfl, ha, ra⟩ := r0.own_inv
      have e0 := ra.no h1
      subst e0
      obtain ⟨v, rfl, rv⟩ := rs.one_inv
      obtain ⟨b, zs, G2, rfl, hb, rz⟩ := rv.lst_tr
      have rz := rz.nil_of h2
      refine .inl ⟨a, b, ws, zs, rfl, rfl, ha, hb, by rw [← ra.length, ← rz.length]; exact sz_of h3, upd_own ha (fun b z e => nz a List.mem_cons_self (by rw [← e]; exact z)) (by simp) List.nodup_nil .non ?_ q'⟩
      exact Rs.app (F := []) (G := []) ra rz
    · cases hg
  · rename_i l m
    unfold gExtL at hg
    split at hg
    · rename_i h
      cases hg
      rw [Bool.and_eq_true, Bool.and_eq_true] at h
      obtain ⟨⟨h1, h2⟩, h3⟩ := h
      obtain ⟨a, ws, G, rfl, rfl, ha, ra⟩ := r0.own_inv
      have e0 := ra.no h1
      subst e0
      obtain ⟨v, rfl, rv⟩ := rs.one_inv
      obtain ⟨b, zs, rfl, hb, rz⟩ := rv.tup_inv
      have rz := rz.nil_of h2
      refine .inr ⟨a, b, ws, zs, rfl, rfl, ha, hb, by rw [← ra.length, ← rz.length]; exact sz_of h3, upd_own ha (fun b z e => nz a List.mem_cons_self (by rw [← e]; exact z)) (by simp) List.nodup_nil .non ?_ q'⟩
      exact Rs.app (F := []) (G := []) ra rz
    · cases hg
  · cases hg
end
section
variable {X : Cx} {T : List Nat} {e : Expr} {es : List Expr} {fr : M (List D)} {y name : Str} {ty id : String} {apos cpos npos : Pos} {r : V → List V → Hp → VK → Prop} {g : D → List D → Option (D × D)}
theorem tv_mut0 (i : Nat) (hm : MtU X.K r g) {σ : L2.St} {H : Hp} {Q : VK} (h : tV X.K [i] [] true (fMut i ty g fNil) σ H Q) : tBM0 X.K ty r (tVar i) σ H Q := by
  obtain ⟨v, hv, h1, h2⟩ := tv_mut (T := []) i hm h
  refine ⟨v, hv, h1, ?_⟩
  obtain ⟨Z, ρ, Fs, ds, ρ', rel, hf, q⟩ := h2
  cases hf
  exact q [] H Z Fs [] rel (Frm.refl _) ⟨.nil, fun _ _ h => (by cases h), fun _ => ⟨List.nodup_nil, fun _ h => (by cases h)⟩⟩ Cf.nil
theorem pev_bm (i : Nat) (pa : PlainAttrs ty) (slot : Slot ty name id) (hty : typeOf (.builtin id) = pure (.type "method_descriptor")) (hm : MtR X id r) (hu : MtU X.K r g) (ha : PAV X T [] true (e :: es) fr)
    (hN : X.N[i]? = some y := by rfl) (hv : Vis X.env.scope y := by first | exact Or.inl rfl | exact Or.inr (Or.inl rfl) | exact Or.inr (Or.inr rfl)) (hd : (y == ("__debug__" : Str)) = false := by decide) (hcd : (y == ("__classdict__" : Str)) = false := by decide)
    (hbase : attributeBase (.Name y npos) name X.env (eval (.Name y npos) X.env) = eval (.Name y npos) X.env := by rfl)
    (hfew : ((backTo cpos (starEach (e :: es) X.env)).all (fun x => !x.1) && (backToKw cpos (keywordEach [] X.env)).all (fun x => x.1.isSome)
      && decide ((e :: es).length + ([] : List Keyword).length + (if ([] : List Keyword).isEmpty then 0 else 1) < 30)) = true := by rfl)
    (hline : (apos.endLine == cpos.line) = true := by rfl) (hs : starEach (e :: es) X.env = (false, eval e X.env) :: starEach es X.env := by rfl) (hplain : (backTo cpos (starEach es X.env)).any (·.1) = false := by rfl) :
    PEV X (T ++ [i]) [] true (.Call (.Attribute (.Name y npos) name apos) (e :: es) [] cpos) (fMut i ty g fr) :=
  PE.imp (pe_bm pa slot hty hm (pe_var hN hv hd hcd) ha hbase hfew hline hs hplain) fun _ _ _ h => tv_mut i hu h
theorem pev_bm0 (i : Nat) (pa : PlainAttrs ty) (slot : Slot ty name id) (hty : typeOf (.builtin id) = pure (.type "method_descriptor")) (hm : MtR X id r) (hu : MtU X.K r g)
    (hN : X.N[i]? = some y := by rfl) (hv : Vis X.env.scope y := by first | exact Or.inl rfl | exact Or.inr (Or.inl rfl) | exact Or.inr (Or.inr rfl)) (hd : (y == ("__debug__" : Str)) = false := by decide) (hcd : (y == ("__classdict__" : Str)) = false := by decide)
    (hbase : attributeBase (.Name y npos) name X.env (eval (.Name y npos) X.env) = eval (.Name y npos) X.env := by rfl) (hline : (apos.endLine == cpos.line) = true := by rfl) :
    PEV X [i] [] true (.Call (.Attribute (.Name y npos) name apos) [] [] cpos) (fMut i ty g fNil) :=
  PE.imp (pe_bm0 pa slot hty hm (pe_var hN hv hd hcd) hbase hline) fun _ _ _ h => tv_mut0 i hu h
end
end Vl

namespace Vl
open PySem PySem.Spec PyProof.Rows L2

/-! ### dicts as pairs: keys ints, texts (or tuples of these) -/
def kE : D → D → Bool
  | .int i, .int j => decide (i = j)
  | .str a, .str b => decide (a = b)
  | _, _ => false
def kEs : List D → List D → Bool
  | [], [] => true
  | a :: r, b :: s => kE a b && kEs r s
  | _, _ => false
def kEq (a b : D) : Bool := match a, b with
  | .tup l, .tup m => kEs l m
  | _, _ => kE a b
def keyOf : D → Option Key
  | .int i => some (.inl i)
  | .str s => some (.inr s)
  | _ => none
def lookD (kvs : List (D × D)) (k : D) : Option D := match kvs with
  | [] => none
  | p :: r => if kEq p.1 k = true then some p.2 else lookD r k
def hasD (kvs : List (D × D)) (k : D) : Bool := match kvs with
  | [] => false
  | p :: r => kEq p.1 k || hasD r k
def replD (kvs : List (D × D)) (k v : D) : List (D × D) := kvs.map fun p => if kEq p.1 k = true then (p.1, v) else p
def putD (kvs : List (D × D)) (k v : D) : List (D × D) := if hasD kvs k = true then replD kvs k v else kvs ++ [(k, v)]
def delD (kvs : List (D × D)) (k : D) : List (D × D) := kvs.filter fun p => !kEq p.1 k
theorem keyOf_some {d : D} {k : Key} (h : keyOf d = some k) : d = kD k := by
  unfold keyOf at h
  split at h <;> cases h <;> rfl
theorem kEq_kD (a b : Key) : kEq (kD a) (kD b) = decide (a = b) := by
  cases a <;> cases b <;> simp [kEq, kE, kD]

section
variable {K : PySem.W.Frag} {Z : Addr → Prop} {H : Hp} {κ : Type} [DecidableEq κ] {enc : κ → D}
/-- the same keys, related values -/
structure DRel (K : PySem.W.Frag) (Z : Addr → Prop) (H : Hp) (enc : κ → D) (kvs : List (D × D)) (ws : List (κ × V)) (F : List Addr) : Prop where
  ks : kvs.map (·.1) = ws.map (fun p => enc p.1)
  rs : Rs K Z H (kvs.map (·.2)) (ws.map (·.2)) F
theorem DRel.uncons {p : D × D} {kvs : List (D × D)} {ws : List (κ × V)} {F : List Addr} (r : DRel K Z H enc (p :: kvs) ws F) :
    ∃ q qs F1 F2, ws = q :: qs ∧ p.1 = enc q.1 ∧ F = F1 ++ F2 ∧ R K Z H p.2 q.2 F1 ∧ DRel K Z H enc kvs qs F2 := by
  obtain ⟨k, r⟩ := r
  cases ws with
  | nil => cases k
  | cons q qs =>
    rw [List.map_cons, List.map_cons] at k
    injection k with k1 k2
    obtain ⟨v, vs, F1, F2, e1, e2, r1, r2⟩ := Rs.uncons (show Rs K Z H (p.2 :: kvs.map (·.2)) (q.2 :: qs.map (·.2)) F from r)
    cases e1
    exact ⟨q, qs, F1, F2, rfl, k1, e2, r1, k2, r2⟩
theorem DRel.nil_ {ws : List (κ × V)} {F : List Addr} (r : DRel K Z H enc [] ws F) : ws = [] := by
  cases ws with
  | nil => rfl
  | cons q qs => cases r.ks
theorem DRel.cons0 {p : D × D} {q : κ × V} {kvs : List (D × D)} {ws : List (κ × V)} (h1 : p.1 = enc q.1) (h2 : R K Z H p.2 q.2 []) (r : DRel K Z H enc kvs ws []) : DRel K Z H enc (p :: kvs) (q :: ws) [] :=
  ⟨by rw [List.map_cons, List.map_cons, h1, r.ks], .cons0 h2 r.rs⟩
theorem DRel.look (he : ∀ a b, kEq (enc a) (enc b) = decide (a = b)) (k : κ) : ∀ {kvs : List (D × D)} {ws : List (κ × V)} {F : List Addr}, DRel K Z H enc kvs ws F →
    (∀ d, lookD kvs (enc k) = some d → ∃ v G, valV ws k = some v ∧ R K Z H d v G ∧ ∀ a ∈ G, a ∈ F) ∧ (lookD kvs (enc k) = none → valV ws k = none)
  | [], ws, F, r => by
    rw [r.nil_]
    exact ⟨fun d h => (by cases h), fun _ => rfl⟩
  | p :: kvs, ws, F, r => by
    obtain ⟨q, qs, F1, F2, rfl, k1, rfl, r1, r2⟩ := r.uncons
    obtain ⟨h1, h2⟩ := DRel.look he k r2
    have e : kEq p.1 (enc k) = decide (q.1 = k) := by rw [k1, he]
    by_cases c : q.1 = k
    · rw [valV_pos c]
      have e2 : lookD (p :: kvs) (enc k) = some p.2 := by unfold lookD; rw [e]; simp [c]
      rw [e2]
      exact ⟨fun d h => by cases h; exact ⟨_, F1, rfl, r1, fun a ha => List.mem_append_left _ ha⟩, fun h => (by cases h)⟩
    · rw [valV_neg c]
      have e2 : lookD (p :: kvs) (enc k) = lookD kvs (enc k) := by rw [lookD]; rw [e]; simp [c]
      rw [e2]
      exact ⟨fun d h => let ⟨v, G, z1, z2, z3⟩ := h1 d h; ⟨v, G, z1, z2, fun a ha => List.mem_append_right _ (z3 a ha)⟩, h2⟩
theorem hasD_look (k : D) : ∀ kvs : List (D × D), hasD kvs k = (lookD kvs k).isSome
  | [] => rfl
  | p :: r => by
    unfold hasD lookD
    by_cases c : kEq p.1 k = true
    · rw [c]; rfl
    · rw [if_neg c, hasD_look k r]
      rw [Bool.not_eq_true] at c
      rw [c]; rfl
theorem DRel.has (he : ∀ a b, kEq (enc a) (enc b) = decide (a = b)) {kvs : List (D × D)} {ws : List (κ × V)} {F : List Addr} (r : DRel K Z H enc kvs ws F) (k : κ) : (valV ws k).isSome = hasD kvs (enc k) := by
  rw [hasD_look]
  obtain ⟨h1, h2⟩ := r.look he k
  cases c : lookD kvs (enc k) with
  | none => rw [h2 c]; rfl
  | some d => obtain ⟨v, G, z, _⟩ := h1 d c; rw [z]; rfl
theorem DRel.repl (he : ∀ a b, kEq (enc a) (enc b) = decide (a = b)) {k : κ} {d : D} {v : V} (rv : R K Z H d v []) : ∀ {kvs : List (D × D)} {ws : List (κ × V)}, DRel K Z H enc kvs ws [] →
    DRel K Z H enc (replD kvs (enc k) d) (ws.map fun kv => if kv.1 = k then (kv.1, v) else kv) []
  | [], ws, r => by rw [r.nil_]; exact ⟨rfl, .nil⟩
  | p :: kvs, ws, r => by
    obtain ⟨q, qs, F1, F2, rfl, k1, e0, r1, r2⟩ := r.uncons
    obtain ⟨e1, e2⟩ := app_eq_nil e0.symm
    subst e1 e2
    have e : kEq p.1 (enc k) = decide (q.1 = k) := by rw [k1, he]
    have ih := DRel.repl he rv r2 (k := k)
    unfold replD at ih ⊢
    rw [List.map_cons, List.map_cons, e]
    by_cases c : q.1 = k
    · rw [if_pos (decide_eq_true c), if_pos c]; exact .cons0 k1 rv ih
    · rw [if_neg (by simpa using c), if_neg c]; exact .cons0 k1 r1 ih
theorem DRel.put (he : ∀ a b, kEq (enc a) (enc b) = decide (a = b)) {k : κ} {d : D} {v : V} (rv : R K Z H d v []) {kvs : List (D × D)} {ws : List (κ × V)} (r : DRel K Z H enc kvs ws []) :
    DRel K Z H enc (putD kvs (enc k) d) (putK ws k v) [] := by
  have e : (ws.any fun kv => decide (kv.1 = k)) = hasD kvs (enc k) := by rw [valV_any, r.has he k]
  unfold putD putK
  rw [e]
  by_cases c : hasD kvs (enc k) = true
  · rw [if_pos c, if_pos c]; exact r.repl he rv
  · rw [if_neg c, if_neg c]
    refine ⟨by rw [List.map_append, List.map_append, r.ks]; rfl, ?_⟩
    rw [List.map_append, List.map_append]
    exact Rs.app (F := []) (G := []) r.rs (Rs.one rv)
theorem DRel.del (he : ∀ a b, kEq (enc a) (enc b) = decide (a = b)) {k : κ} : ∀ {kvs : List (D × D)} {ws : List (κ × V)}, DRel K Z H enc kvs ws [] → DRel K Z H enc (delD kvs (enc k)) (dropK ws k) []
  | [], ws, r => by rw [r.nil_]; exact ⟨rfl, .nil⟩
  | p :: kvs, ws, r => by
    obtain ⟨q, qs, F1, F2, rfl, k1, e0, r1, r2⟩ := r.uncons
    obtain ⟨e1, e2⟩ := app_eq_nil e0.symm
    subst e1 e2
    have e : kEq p.1 (enc k) = decide (q.1 = k) := by rw [k1, he]
    have ih := DRel.del he r2 (k := k)
    unfold delD dropK at ih ⊢
    rw [List.filter_cons, List.filter_cons, e]
    by_cases c : q.1 = k
    · simp only [c, decide_true, Bool.not_true, ne_eq, not_true_eq_false, decide_false]; exact ih
    · simp only [c, decide_false, Bool.not_false, ne_eq, not_false_eq_true, decide_true]; exact .cons0 k1 r1 ih

/-- a dict that is read -/
theorem R.dct_rd {o : Bool} {kvs : List (D × D)} {v : V} {F : List Addr} (r : R K Z H (.dct o false kvs) v F) : ∃ a ws G, v = .ref a ∧ Rd H a (.dK ws) ∧ DRel K Z H kD kvs ws G ∧ ∀ b ∈ G, b ∈ F := by
  cases r with
  | dow h rs =>
    obtain ⟨ob, h1, ws, rfl, h2, rfl⟩ := h
    exact ⟨_, ws, _, rfl, .inl h1, ⟨h2, rs⟩, fun b hb => List.mem_cons_of_mem _ hb⟩
  | dfz h z rs =>
    obtain ⟨ob, h1, ws, rfl, h2, rfl⟩ := h
    exact ⟨_, ws, _, rfl, .inl h1, ⟨h2, rs⟩, fun b hb => hb⟩
  | dlk h rs =>
    obtain ⟨od, ob, h1, ws, rfl, h2, rfl⟩ := h
    exact ⟨_, ws, _, rfl, .inr ⟨od, h1⟩, ⟨h2, rs⟩, fun b hb => hb⟩
theorem R.dct_ow {kvs : List (D × D)} {v : V} {F : List Addr} (r : R K Z H (.dct true false kvs) v F) : ∃ a ws G, v = .ref a ∧ F = a :: G ∧ H a = some (.dK ws) ∧ DRel K Z H kD kvs ws G := by
  cases r with
  | dow h rs =>
    obtain ⟨ob, h1, ws, rfl, h2, rfl⟩ := h
    exact ⟨_, ws, _, rfl, rfl, h1, ⟨h2, rs⟩⟩
theorem DRel.at {a : Addr} {kvs : List (D × D)} {ws : List (Key × V)} {F : List Addr} (h : H a = some (.dK ws)) (r : DRel K Z H kD kvs ws F) : R K Z H (.dct true false kvs) (.ref a) (a :: F) :=
  .dow ⟨_, h, ws, rfl, r.ks, rfl⟩ r.rs
theorem R.key {d : D} {k : Key} {v : V} {F : List Addr} (h : keyOf d = some k) (r : R K Z H d v F) : v = kV k ∧ d = kD k := by
  have e := keyOf_some h
  subst e
  refine ⟨?_, rfl⟩
  cases k with
  | inl i => exact r.int_inv
  | inr s => exact r.str_inv

/-! ### reading: lists, tuples, texts, dicts -/
def gDk (d e : D) : Option D := match d with
  | .dct _ false kvs => (keyOf e).bind fun _ => lookD kvs e
  | _ => none
def rIxA (K : PySem.W.Frag) : R2 := fun x y H Q => rIx K x y H Q ∨ ∃ a v, x = .ref a ∧ DGet H a y (some v) ∧ Q v H
theorem ix_all {X : Cx} (hu : X.A.units + 1 < cLine) : IxR X (rIxA X.K) := IxR.or ix_seq fun value slice pins s σ H x y v u Q I rx ry h hs => by
  obtain ⟨a, w, rfl, g, q⟩ := h
  obtain rfl : v = Value.ref a := rx
  exact tail_any (dict_typeIs I g) PySem.F.slot_dict_getitem.lookup (d_getItem hu I g ry fun w' s3 I3 rw' => ⟨w, H, I3, rw', q⟩) hs
def gIxA (d e : D) : Option D := match d with
  | .dct _ _ _ => gDk d e
  | _ => gIx d e
theorem gDk_of {d e x : D} {v u : V} {F G : List Addr} (h : gDk d e = some x) (r1 : R K Z H d v F) (r2 : R K Z H e u G) : ∃ a w G', v = .ref a ∧ DGet H a u (some w) ∧ R K Z H x w G' ∧ ∀ b ∈ G', b ∈ F := by
  unfold gDk at h
  split at h
  · rename_i o kvs
    obtain ⟨k, hk, h⟩ := Option.bind_eq_some_iff.mp h
    obtain ⟨rfl, rfl⟩ := r2.key hk
    obtain ⟨a, ws, G', rfl, hr, dr, hs⟩ := r1.dct_rd
    obtain ⟨w, G2, z1, z2, z3⟩ := (dr.look kEq_kD k).1 x h
    exact ⟨a, w, G2, rfl, .inl ⟨ws, k, hr, rfl, z1.symm⟩, z2, fun b hb => hs b (z3 b hb)⟩
  · cases h
theorem os_ixA : OpW K (rIxA K) gIxA := fun Z H d1 d2 v1 v2 F1 F2 d Q r1 r2 hg q => by
  unfold gIxA at hg
  split at hg
  · obtain ⟨a, w, G', rfl, g, r, hs⟩ := gDk_of hg r1 r2
    exact .inr ⟨a, w, rfl, g, q w H G' (Keep.refl _ _) r hs⟩
  · exact .inl (os_ix Z H d1 d2 v1 v2 F1 F2 d Q r1 r2 hg q)
theorem pev_ixA {X : Cx} {T1 T2 O1 O2 : List Nat} {x1 x2 : Bool} {a b : Expr} {fa fb : M D} {pos : Pos} (hu : X.A.units + 1 < cLine) (ha : PEV X T1 O1 x1 a fa) (hb : PEV X T2 O2 x2 b fb) (hp : PlainIx b := by intro _ _; rfl) : PEV X (T1 ++ T2) O1 false (.Subscript a b pos) (fOp O1 T2 gIxA fa fb) :=
  pev_ix (hr := ix_all hu) os_ixA ha hb hp
/-- k in d -/
def rInK : R2 := fun y x H Q => ∃ a o, x = .ref a ∧ DGet H a y o ∧ Q (.bl o.isSome) H
def rNiK : R2 := fun y x H Q => ∃ a o, x = .ref a ∧ DGet H a y o ∧ Q (.bl (!o.isSome)) H
theorem op_inK {X : Cx} (hu : X.A.units + 1 < cLine) : OpR X (compareOp .In) rInK := fun pins s σ H x y v u Q I rx ry h => by
  obtain ⟨a, o, rfl, g, q⟩ := h
  obtain rfl : u = Value.ref a := ry
  exact d_in hu I g rx fun s3 I3 => ⟨.bl o.isSome, H, I3, rfl, q⟩
theorem op_niK {X : Cx} (hu : X.A.units + 1 < cLine) : OpR X (compareOp .NotIn) rNiK := fun pins s σ H x y v u Q I rx ry h => by
  obtain ⟨a, o, rfl, g, q⟩ := h
  obtain rfl : u = Value.ref a := ry
  exact d_notIn hu I g rx fun s3 I3 => ⟨.bl (!o.isSome), H, I3, rfl, q⟩
def rInA (K : PySem.W.Frag) : R2 := fun x y H Q => (rIn K false x y H Q ∨ rInK x y H Q) ∨ rInD K x y H Q
def rNiA (K : PySem.W.Frag) : R2 := fun x y H Q => (rIn K true x y H Q ∨ rNiK x y H Q) ∨ rNotInD K x y H Q
theorem op_inA {X : Cx} (hu : X.A.units + 65 < cLine) : OpR X (compareOp .In) (rInA X.K) := (op_in_seq.or (op_inK (by omega))).or (op_inD hu)
theorem op_niA {X : Cx} (hu : X.A.units + 65 < cLine) : OpR X (compareOp .NotIn) (rNiA X.K) := (op_notIn_seq.or (op_niK (by omega))).or (op_notInD hu)
def flatD : D → Bool
  | .non => true
  | .bl _ => true
  | .int _ => true
  | .str _ => true
  | _ => false
theorem flat_eq {d e : D} {v w : V} {F G : List Addr} (r1 : R K Z H d v F) (r2 : R K Z H e w G) (h1 : flatD d = true) (h2 : flatD e = true) : flatV v = true ∧ flatV w = true ∧ eqV v w = pyEq d e := by
  cases r1 <;> first | (cases h1; done) | skip
  all_goals (cases r2 <;> first | (cases h2; done) | exact ⟨rfl, rfl, by simp [eqV, pyEq, D.toP, PyData.eqv]⟩)
theorem flat_any {e : D} {w : V} {G : List Addr} (r2 : R K Z H e w G) (h2 : flatD e = true) : ∀ {ds : List D} {vs : List V} {F : List Addr}, Rs K Z H ds vs F → ds.all flatD = true → vs.all flatV = true ∧ inV w vs = ds.any fun z => pyEq z e
  | [], _, _, r, _ => by cases r; exact ⟨rfl, rfl⟩
  | d :: ds, vs, F, r, h => by
    rw [List.all_cons, Bool.and_eq_true] at h
    obtain ⟨v, ws, F1, F2, rfl, e2, r1, rs⟩ := r.uncons
    obtain ⟨a1, a2, a3⟩ := flat_eq r1 r2 h.1 h2
    obtain ⟨b1, b2⟩ := flat_any r2 h2 rs h.2
    refine ⟨by rw [List.all_cons, a1, b1]; rfl, ?_⟩
    unfold inV at b2 ⊢
    rw [List.any_cons, List.any_cons, a3, b2]
theorem toPL_any (e : PyData) : ∀ l : List D, (D.toPL l).any (fun z => PyData.eqv z e) = l.any fun z => PyData.eqv z.toP e
  | [] => by simp [D.toPL]
  | d :: r => by simp only [D.toPL, List.any_cons, toPL_any e r]
def inD (l : List D) (d : D) : Bool := l.any fun z => pyEq z d
/-- d in e -/
def isIn (d e : D) : Option Bool := match e with
  | .dct _ false kvs => (keyOf d).bind fun _ => some (hasD kvs d)
  | .lst _ l => if (eqOk d && eqOk e) = true then some (inD l d) else none
  | .scr l => if (eqOk d && eqOk e) = true then some (inD l d) else none
  | .tup l => if (flatD d && l.all flatD) = true then some (inD l d) else none
  | _ => none
theorem isIn_of {d e : D} {b : Bool} {v w : V} {F G : List Addr} (h : isIn d e = some b) (r1 : R K Z H d v F) (r2 : R K Z H e w G) :
    (∃ p xs, w = .ref p ∧ (SqL K H p xs ∨ SqT K H p xs) ∧ flatV v = true ∧ xs.all flatV = true ∧ inV v xs = b) ∨ (∃ a o, w = .ref a ∧ DGet H a v o ∧ o.isSome = b) ∨
    ∃ x ds, Dp K H v x ∧ Dp K H w (.list ds) ∧ SeqAt.shaped x = true ∧ SeqAt.shaped (.list ds) = true ∧ (ds.any fun z => PyData.eqv z x) = b := by
  unfold isIn at h
  split at h
  · rename_i o kvs
    obtain ⟨k, hk, h⟩ := Option.bind_eq_some_iff.mp h
    cases h
    obtain ⟨rfl, rfl⟩ := r1.key hk
    obtain ⟨a, ws, G', rfl, hr, dr, hs⟩ := r2.dct_rd
    exact .inr (.inl ⟨a, valV ws k, rfl, .inl ⟨ws, k, hr, rfl, rfl⟩, dr.has kEq_kD k⟩)
  · rename_i o l
    split at h
    · rename_i hz
      cases h
      rw [Bool.and_eq_true] at hz
      exact .inr (.inr ⟨d.toP, D.toPL l, r1.dp (eqOk.eok hz.1), by simpa [D.toP] using r2.dp (eqOk.eok hz.2), eqOk.shaped hz.1, by simpa [D.toP] using eqOk.shaped hz.2, toPL_any _ _⟩)
    · cases h
  · rename_i l
    split at h
    · rename_i hz
      cases h
      rw [Bool.and_eq_true] at hz
      exact .inr (.inr ⟨d.toP, D.toPL l, r1.dp (eqOk.eok hz.1), by simpa [D.toP] using r2.dp (eqOk.eok hz.2), eqOk.shaped hz.1, by simpa [D.toP] using eqOk.shaped hz.2, toPL_any _ _⟩)
    · cases h
  · rename_i l
    split at h
    · rename_i hz
      cases h
      rw [Bool.and_eq_true] at hz
      obtain ⟨a, vs, rfl, hs, rs⟩ := r2.tup_inv
      obtain ⟨b1, b2⟩ := flat_any r1 hz.1 rs hz.2
      have b3 : flatV v = true := by cases r1 <;> first | rfl | (cases hz.1; done)
      exact .inl ⟨a, vs, rfl, .inr hs, b3, b1, b2⟩
    · cases h
  · cases h
def gIn (d e : D) : Option D := (isIn d e).map fun b => .bl b
def gNi (d e : D) : Option D := (isIn d e).map fun b => .bl (!b)
theorem os_in : OpS K (rInA K) gIn := OpS.here fun Z H d1 d2 v1 v2 F1 F2 d Q r1 r2 hg q => by
  obtain ⟨b, h, rfl⟩ := Option.map_eq_some_iff.mp hg
  rcases isIn_of h r1 r2 with ⟨p, xs, e1, e2, e3, e4, e5⟩ | ⟨a, o, e1, e2, e3⟩ | ⟨x, ds, e1, e2, e3, e4, e5⟩
  · subst e5; exact .inl (.inl ⟨p, xs, e1, e2, e3, e4, q _ (.bl _)⟩)
  · subst e3; exact .inl (.inr ⟨a, o, e1, e2, q _ (.bl _)⟩)
  · subst e5; exact .inr ⟨x, ds, e1, e2, e3, e4, q _ (.bl _)⟩
theorem os_ni : OpS K (rNiA K) gNi := OpS.here fun Z H d1 d2 v1 v2 F1 F2 d Q r1 r2 hg q => by
  obtain ⟨b, h, rfl⟩ := Option.map_eq_some_iff.mp hg
  rcases isIn_of h r1 r2 with ⟨p, xs, e1, e2, e3, e4, e5⟩ | ⟨a, o, e1, e2, e3⟩ | ⟨x, ds, e1, e2, e3, e4, e5⟩
  · subst e5; exact .inl (.inl ⟨p, xs, e1, e2, e3, e4, q _ (.bl _)⟩)
  · subst e3; exact .inl (.inr ⟨a, o, e1, e2, q _ (.bl _)⟩)
  · subst e5; exact .inr ⟨x, ds, e1, e2, e3, e4, q _ (.bl _)⟩

/-! ### writing an item -/
def StU (K : PySem.W.Frag) (r : TSet) (g : D → D → D → Option D) : Prop := ∀ (Z : Addr → Prop) (H : Hp) (d0 di dv d' : D) (v0 vi vv : V) (F0 Fi : List Addr) (Q : Hp → Prop),
  R K Z H d0 v0 F0 → F0.Nodup → (∀ a ∈ F0, ¬ Z a) → R K Z H di vi Fi → R K Z H dv vv [] → g d0 di dv = some d' →
  (∀ H' F0', Keep (fun a => a ∈ F0) H H' → R K Z H' d' v0 F0' → F0'.Nodup → (∀ a ∈ F0', a ∈ F0) → Q H') → r v0 vi vv H Q
def rSetA : TSet := fun o i v H Q => rSetL o i v H Q ∨ ∃ a H4, o = .ref a ∧ DPut H a i v H4 ∧ Q H4
theorem set_all {X : Cx} (hu : X.A.units + 1 < cLine) : PSet X rSetA := fun pins s σ H o i v ov iv u Q I ro ri rv h => by
  rcases h with h | ⟨a, H4, rfl, g, q⟩
  · exact set_list pins s σ H o i v ov iv u Q I ro ri rv h
  · obtain rfl : ov = Value.ref a := ro
    exact d_setItem hu I g ri rv fun s4 I4 => ⟨H4, I4, q⟩
def gSet (d0 di dv : D) : Option D := match d0, di with
  | .lst true l, .int i => if D.noOwnL l = true then (ixN l.length i).map fun j => .lst true (l.set j dv) else none
  | .dct true false kvs, k => (keyOf k).bind fun _ => if (D.noOwnP kvs && szOk kvs.length) = true then some (.dct true false (putD kvs k dv)) else none
  | _, _ => none
theorem st_set : StU K rSetA gSet := fun Z H d0 di dv d' v0 vi vv F0 Fi Q r0 nd nz ri rv hg q => by
  unfold gSet at hg
  split at hg
  · rename_i l i
    split at hg
    · rename_i hn
      obtain ⟨j, hj, rfl⟩ := Option.map_eq_some_iff.mp hg
      obtain ⟨a, ws, G, rfl, rfl, ha, ra⟩ := r0.own_inv
      have e0 := ra.no hn
      subst e0
      refine .inl ⟨a, ws, i, j, rfl, ri.int_inv, ha, by rw [← ra.length]; exact hj, ?_⟩
      have k : Keep (fun b => b = a) H (upd H a (.lst (ws.set j vv))) := Keep.wr ha trivial
      have hz : ∀ b, Z b → ¬ b = a := fun b z e => nz a List.mem_cons_self (by rw [← e]; exact z)
      refine q _ [a] (k.mono fun b e => by rw [e]; exact List.mem_cons_self) (.own upd_same ((Rs.set0 rv j ra).keep k (fun _ h => h) hz fun b hb => (by cases hb))) (by simp) fun b hb => hb
    · cases hg
  · rename_i kvs
    obtain ⟨k, hk, hg⟩ := Option.bind_eq_some_iff.mp hg
    split at hg
    · rename_i hn
      cases hg
      rw [Bool.and_eq_true] at hn
      obtain ⟨rfl, rfl⟩ := ri.key hk
      obtain ⟨a, ws, G, rfl, rfl, ha, dr⟩ := r0.dct_ow
      have e0 : G = [] := dr.rs.no (by rw [← noOwnP_eq]; exact hn.1)
      subst e0
      have hl : kvs.length = ws.length := by have := dr.rs.length; simpa using this
      refine .inr ⟨a, _, rfl, DPut.k ha (by rw [← hl]; exact sz_lt hn.2), ?_⟩
      have kp : Keep (fun b => b = a) H (upd H a (.dK (putK ws k vv))) := Keep.wr ha trivial
      have hz : ∀ b, Z b → ¬ b = a := fun b z e => nz a List.mem_cons_self (by rw [← e]; exact z)
      have dr2 := dr.put kEq_kD rv (k := k)
      refine q _ [a] (kp.mono fun b e => by rw [e]; exact List.mem_cons_self) (DRel.at upd_same ⟨dr2.ks, dr2.rs.keep kp (fun _ h => h) hz fun b hb => (by cases hb)⟩) (by simp) fun b hb => hb
    · cases hg
  · cases hg
/-- name[index] as a target -/
def gSt (i : Nat) (fi : M D) : D → Env → Option Env := fun v ρ => (Env.at ρ i).bind fun _ => (fi ρ).bind fun p => (Env.at p.2 i).bind fun o => (gSet o p.1 v).bind fun d' => some (p.2.set i (some d'))
end
section
variable {X : Cx} {T T1 T2 O O1 O2 : List Nat} {x x1 x2 : Bool} {e ix : Expr} {fi fe : M D} {pos npos : Pos} {y : Str}
theorem pgv_sub (i : Nat) (hu : X.A.units + 1 < cLine) (hi : PEV X T O x ix fi)
    (hN : X.N[i]? = some y := by rfl) (hv : Vis X.env.scope y := by first | exact Or.inl rfl | exact Or.inr (Or.inl rfl) | exact Or.inr (Or.inr rfl)) (hd : (y == ("__debug__" : Str)) = false := by decide) (hcd : (y == ("__classdict__" : Str)) = false := by decide)
    (ha : ∀ v, assign (.Subscript (.Name y npos) ix pos) X.env v = (do
      let ov ← holding [v] (eval (.Name y npos) X.env)
      let iv ← holding [v, ov] (eval ix X.env)
      standAt pos
      holding [v, ov, iv] (setItem ov iv v)
      release [v, ov, iv] []) := by intro _; rfl) : PGV X [] (T ++ [i]) (.Subscript (.Name y npos) ix pos) (gSt i fi) := by
  refine PG.imp (pg_sub (pe_var hN hv hd hcd) hi (set_all hu) ha) fun v σ H Q h => ?_
  obtain ⟨Z, ρ, Fs, d, ρ', rel, rd, hg, q⟩ := h
  unfold gSt at hg
  obtain ⟨o0, h0, hg⟩ := Option.bind_eq_some_iff.mp hg
  obtain ⟨⟨di, ρ1⟩, h1, hg⟩ := Option.bind_eq_some_iff.mp hg
  obtain ⟨o, h2, hg⟩ := Option.bind_eq_some_iff.mp hg
  obtain ⟨d', h3, hg⟩ := Option.bind_eq_some_iff.mp hg
  cases hg
  obtain ⟨v0, hv0, r0⟩ := rel.at_ i o0 (Env.at_some h0)
  refine ⟨v0, hv0, Z, ρ, Fs, di, ρ1, rel, h1, fun vi H1 Z1 Fs1 F rel1 f1 w1 c1 => ?_⟩
  have hio := Env.at_some h2
  obtain ⟨v1, hv1, r1⟩ := rel1.at_ i o hio
  rw [hv0] at hv1
  cases hv1
  have rd1 : R X.K Z1 H1 d v [] := rd.keep f1.keep f1.zz (fun a z ⟨j, hj, ha⟩ => rel.nz j a ha z) fun _ h => (by cases h)
  refine st_set Z1 H1 o di d d' v0 vi v (Fs1 i) F (fun H3 => Q σ H3) r1 (rel1.nd i) (fun a ha => rel1.nz i a ha) w1.r rd1 h3 fun H' F0' k rd' nd cf => ?_
  obtain ⟨e1, e2, e3, e4, e5⟩ := mut_end (F := []) (F' := []) rel1 f1 Cf.nil (fun j a h => (by cases h)) (fun a h => (by cases h)) hv0 (Env.lt hio) k rd' (by rw [List.nil_append]; exact nd) (fun a ha => .inl (cf a ha))
  exact q _ _ _ _ ⟨e1, e2, fun _ _ => rfl, rfl⟩
/-- name[index] op= value -/
def rGetA (K : PySem.W.Frag) : V → V → Hp → VK → Prop := fun o i H Q => (∃ p xs k v, o = .ref p ∧ i = .int k ∧ SqL K H p xs ∧ atI xs k = some v ∧ Q v H) ∨ ∃ a v, o = .ref a ∧ DGet H a i (some v) ∧ Q v H
theorem get_all (hu : X.A.units + 1 < cLine) : PGet X (rGetA X.K) := fun pins s σ H o i ov iv Q I ro ri h => by
  rcases h with ⟨p, xs, k, w, rfl, rfl, hq, he, q⟩ | ⟨a, w, rfl, g, q⟩
  · obtain rfl : ov = Value.ref p := ro
    obtain ⟨t, rfl⟩ := (show ∃ t, iv = Value.int k t from ri)
    obtain ⟨its, r, pl, hz⟩ := I.list hq
    obtain ⟨j, h1, h2, h3, h4, h5⟩ := atI_get he
    obtain ⟨u, eu, ru⟩ := r.get h2
    have hl := r.length
    have hn := line63
    by_cases h0 : 0 ≤ k
    · have hj : k.toNat = j := by
        rw [seqIndex_of h0 h5] at h1
        exact Option.some.inj h1
      exact wpAny_getItem_list pl.isList h0 (by omega) (by rw [hj]; simpa using eu) ⟨w, H, I, ru, q⟩
    · have hj : (k + (its.toArray.size : Int)).toNat = j := by
        rw [seqIndex_neg (by omega) h4] at h1
        rw [List.size_toArray, ← hl]
        exact Option.some.inj h1
      exact wpAny_getItem_list_neg pl.isList (by omega) (by rw [List.size_toArray] <;> omega) (by omega) (by rw [hj]; simpa using eu) ⟨w, H, I, ru, q⟩
  · obtain rfl : ov = Value.ref a := ro
    exact d_getItem hu I g ri fun w' s3 I3 rw' => ⟨w, H, I3, rw', q⟩
def gGet (d e : D) : Option D := match d with
  | .lst _ l => match e with
    | .int i => L2.atI l i
    | _ => none
  | _ => gDk d e
def sAugS (i : Nat) (g : D → D → Option D) (fi fe : M D) : MS := fun ρ => (Env.at ρ i).bind fun _ => (fi ρ).bind fun p => (Env.at p.2 i).bind fun o => if p.1.noOwn = true then (gGet o p.1).bind fun d => if d.noOwn = true then
  (fe p.2).bind fun q => (g d q.1).bind fun z => if z.noOwn = true then (Env.at q.2 i).bind fun o2 => (gSet o2 p.1 z).bind fun d' => some (.nx (q.2.set i (some d'))) else none else none else none
theorem psv_augS (i : Nat) {op : Operator} {ti : TIp} {g : D → D → Option D} (hu : X.A.units + 1 < cLine) (ho : PIp X op ti) (hs : OpS X.K ti g) (hi : PEV X T1 O1 x1 ix fi) (he : PEV X T2 O2 x2 e fe)
    (hN : X.N[i]? = some y := by rfl) (hv : Vis X.env.scope y := by first | exact Or.inl rfl | exact Or.inr (Or.inl rfl) | exact Or.inr (Or.inr rfl)) (hd : (y == ("__debug__" : Str)) = false := by decide) (hcd : (y == ("__classdict__" : Str)) = false := by decide)
    (ha : ∀ ov iv new, augStore ix ov iv new = (do holding [new, ov, iv] (setItem ov iv new); release [new, ov, iv] []; pure .next) := by intros; rfl) :
    PSV X [] ((T1 ++ T2) ++ [i]) (.AugAssign (.Subscript (.Name y npos) ix pos) op e p2) (sAugS i g fi fe) := by
  refine PS.imp (ps_augS (pe_var hN hv hd hcd) hi (get_all hu) he ho (set_all hu) ha) fun D σ H h => ?_
  obtain ⟨Z, ρ, Fs, r, rel, hf, k1, k2, k3, k4⟩ := h
  unfold sAugS at hf
  obtain ⟨o0, h0, hf⟩ := Option.bind_eq_some_iff.mp hf
  obtain ⟨⟨di, ρ1⟩, h1, hf⟩ := Option.bind_eq_some_iff.mp hf
  obtain ⟨o, h2, hf⟩ := Option.bind_eq_some_iff.mp hf
  split at hf
  · rename_i hni
    obtain ⟨d, h3, hf⟩ := Option.bind_eq_some_iff.mp hf
    split at hf
    · rename_i hnd
      obtain ⟨⟨de, ρ2⟩, h4, hf⟩ := Option.bind_eq_some_iff.mp hf
      obtain ⟨z, h5, hf⟩ := Option.bind_eq_some_iff.mp hf
      split at hf
      · rename_i hnz
        obtain ⟨o2, h6, hf⟩ := Option.bind_eq_some_iff.mp hf
        obtain ⟨d', h7, hf⟩ := Option.bind_eq_some_iff.mp hf
        cases hf
        obtain ⟨v0, hv0, r0⟩ := rel.at_ i o0 (Env.at_some h0)
        refine ⟨v0, hv0, Z, ρ, Fs, di, ρ1, rel, h1, fun vi H1 Z1 Fs1 F1 rel1 f1 w1 c1 => ?_⟩
        obtain ⟨v1, hv1, r1⟩ := rel1.at_ i o (Env.at_some h2)
        rw [hv0] at hv1
        cases hv1
        have go : ∀ (w : V) (G : List Addr), R X.K Z1 H1 d w G → tV X.K T2 O2 x2 fe σ H1 fun y H4 => ti w y H4 fun z' H5 => rSetA v0 vi z' H5 fun H6 => D.nx σ H6 := fun w G rw' => by
          have e0 := rw'.no hnd
          subst e0
          refine ⟨Z1, ρ1, Fs1, de, ρ2, rel1, h4, fun ve H2 Z2 Fs2 F2 rel2 f2 w2 c2 => ?_⟩
          have hM : ∀ a, Z1 a → ¬ ∃ j ∈ T2, a ∈ Fs1 j := fun a z ⟨j, hj, ha⟩ => rel1.nz j a ha z
          have wd := rw'.keep f2.keep f2.zz hM fun _ h => (by cases h)
          refine hs Z2 H2 d de w ve [] F2 z _ wd w2.r h5 fun vz H3 F3 kz rz ndz cz => ?_
          have e3 := rz.no hnz
          subst e3
          have rel3 := rel2.keep0 kz
          have f3 := (f1.trans f2).trans (Frm.pureT [] kz)
          rw [List.append_nil] at f3
          obtain ⟨v2, hv2, r2⟩ := rel3.at_ i o2 (Env.at_some h6)
          rw [hv0] at hv2
          cases hv2
          have e4 := w1.r.no hni
          have wi := w1.r
          rw [e4] at wi
          have wi2 := (wi.keep f2.keep f2.zz hM fun _ h => (by cases h)).keep0 kz
          refine st_set Z2 H3 o2 di z d' v0 vi vz (Fs2 i) [] _ r2 (rel3.nd i) (fun a ha => rel3.nz i a ha) wi2 rz h7 fun H' F0' k rd' nd cf => ?_
          obtain ⟨e1, e2, _, _, _⟩ := mut_end (F := []) (F' := []) rel3 f3 Cf.nil (fun j a h => (by cases h)) (fun a h => (by cases h)) hv0 (Env.lt (Env.at_some h6)) k rd' (by rw [List.nil_append]; exact nd) (fun a ha => .inl (cf a ha))
          exact k1 _ rfl _ _ _ _ ⟨e1, e2, fun _ _ => rfl, rfl⟩
        unfold gGet at h3
        split at h3
        · rename_i ow l
          split at h3
          · rename_i k hdi
            simp only at hdi
            subst hdi
            obtain ⟨a, vs, G0, rfl, ha', rs, hs'⟩ := r1.lst_at
            obtain ⟨w, G, z1, z2, z3⟩ := rs.atI h3
            exact .inl ⟨a, vs, k, w, rfl, w1.r.int_inv, ha', z1, go w G z2⟩
          · cases h3
        · obtain ⟨a, w, G', rfl, g', rr, hs'⟩ := gDk_of h3 r1 w1.r
          exact .inr ⟨a, w, rfl, g', go w G' rr⟩
      · cases hf
    · cases hf
  · cases hf
end
end Vl

namespace Vl
open PySem PySem.Spec PyProof.Rows L2

theorem runF_ok {np m n : Nat} {b : MS} : ∀ ds r, runF np m n b ds = some r → ds.length = np ∧ r.2.length = m := fun ds r h => by
  unfold runF at h
  split at h
  · rename_i hl
    refine ⟨hl, ?_⟩
    obtain ⟨q, h1, h⟩ := Option.bind_eq_some_iff.mp h
    cases q with
    | rt d ρ =>
      obtain ⟨es, h2, h⟩ := Option.bind_eq_some_iff.mp h
      cases h
      exact outs_len h2
    | nx ρ =>
      obtain ⟨es, h2, h⟩ := Option.bind_eq_some_iff.mp h
      cases h
      exact outs_len h2
    | bk ρ => cases h
    | ct ρ => cases h
  · cases h
section
variable {K : PySem.W.Frag}
theorem os_ipI {f : Int → Int → Int} : OpS K (ipI f) (gI fun i j => .int (f i j)) := OpS.here fun Z H d1 d2 v1 v2 F1 F2 d Q r1 r2 hg q => by
  unfold gI at hg
  split at hg
  · cases hg
    exact ⟨_, _, r1.int_inv, r2.int_inv, q _ (.int _)⟩
  · cases hg
end
def gAddI : D → D → Option D := gI fun i j => .int (i + j)
def fIsN (c : String) (f : M D) : M D := fun ρ => (f ρ).bind fun p => if notLk p.1 = true then (kitB (tagOf p.1) c).bind fun b => some (.bl b, p.2) else none
/-- {} with keys that are ints or texts -/
def fDnew : M D := fun ρ => some (.dct true false [], ρ)
theorem pev_dnew {X : Cx} {pos : Pos} : PEV X [] [] true (.Dict [] [] pos) fDnew := by
  refine PE.imp pe_dnewK fun σ H Q h => ?_
  obtain ⟨Z, ρ, Fs, d, ρ', rel, hf, q⟩ := h
  cases hf
  intro p hp
  have k : Keep M0 H (upd H p (.dK [])) := Keep.new hp
  have f := Frm.pureT (ρ := ρ) (Fs := Fs) (Z := Z) [] k
  exact q _ _ Z Fs [p] (rel.keep0 k) f (Val.new rel (.dow ⟨_, upd_same, [], rfl, rfl, rfl⟩ .nil) (by simp) fun a ha => by rw [List.mem_singleton.mp ha]; exact hp) (Cf.new (Keep.refl M0 _) fun a ha => by rw [List.mem_singleton.mp ha]; exact hp)
/-- an exclusive value's owned things are frozen -/
def fFz (f : M D) : M D := fun ρ => (f ρ).bind fun p => some (p.1.frz, p.2)
theorem pev_frz {X : Cx} {T : List Nat} {e : Expr} {f : M D} (h : PEV X T [] true e f) : PEV X T [] true e (fFz f) := by
  refine PE.imp h fun σ H Q h => ?_
  obtain ⟨Z, ρ, Fs, d, ρ', rel, hf, q⟩ := h
  unfold fFz at hf
  obtain ⟨⟨d1, ρ1⟩, h1, hf⟩ := Option.bind_eq_some_iff.mp hf
  cases hf
  refine ⟨Z, ρ, Fs, d1, ρ1, rel, h1, fun v H' Z' Fs' F rel' f' w c => ?_⟩
  obtain ⟨nd, nz⟩ := w.exc rfl
  have far : ∀ i a, a ∈ F → a ∉ Fs' i := fun i a h1 h2 => absurd (w.ori i a h1 h2) (by simp)
  have rel2 : Rel X.K (fun a => Z' a ∨ a ∈ F) ρ1 σ H' Fs' := ⟨fun i d e => let ⟨v, h1, h2⟩ := rel'.at_ i d e; ⟨v, h1, h2.keep (Keep.refl M0 _) (fun _ h => .inl h) (fun _ _ h => h) fun _ _ h => h⟩, rel'.nd, rel'.dj,
    fun i a h z => z.elim (rel'.nz i a h) fun z => far i a z h, fun a h => h.elim (rel'.zt a) (w.r.tr a), rel'.ft, rel'.len⟩
  refine q v H' _ Fs' [] rel2 ⟨f'.sub, f'.keep, f'.c1, fun a h => h.elim (f'.c3 a) fun h => (c rfl a h).elim (fun z => .inr (.inl z)) fun z => .inr (.inr z), fun a h => .inl (f'.zz a h), f'.len⟩ ⟨w.r.freeze (fun _ h => .inl h) fun a h => .inr h, fun _ _ h => (by cases h), fun _ => ⟨List.nodup_nil, fun _ h => (by cases h)⟩⟩ Cf.nil
end Vl

namespace Vl
open PySem PySem.Spec PyProof.Rows L2

/-! ### a dict is locked while a walk over it runs -/
def IsDc : HO → Prop
  | .dK _ => True
  | .dT _ => True
  | _ => False
section
variable {K : PySem.W.Frag} {Z Z' : Addr → Prop} {H H' : Hp} {a : Addr} {u : HO} {od : Obj} {ρ ρ' : Env} {σ σ' : L2.St} {Fs Fs' : Ft} {W T : List Nat} {B : Addr → Prop}
theorem IsDc.mut (h : IsDc u) : Mut (some u) := by cases u <;> first | exact h.elim | trivial
theorem DcH.dc {t : Bool} {ks : List D} {vs : List V} {o : HO} (h : DcH t ks vs o) : IsDc o := by
  unfold DcH at h
  split at h
  · obtain ⟨ws, rfl, _⟩ := h; trivial
  · obtain ⟨ws, rfl, _⟩ := h; trivial
theorem sqt_lock {b : Addr} {xs : List V} (hu : IsDc u) (ha : H a = some u) (h : SqT K H b xs) : SqT K (upd H a (.frz od u)) b xs := by
  have ne : ∀ {o : HO}, H b = some o → (¬ IsDc o) → b ≠ a := fun h1 h2 e => by subst e; rw [ha] at h1; cases h1; exact h2 hu
  rcases h with (h | ⟨o, h⟩) | h
  · exact .inl (.inl (by rw [upd_ne (ne h id)]; exact h))
  · exact .inl (.inr ⟨o, by rw [upd_ne (ne h id)]; exact h⟩)
  · exact .inr h
theorem sqf_lock {b : Addr} {xs : List V} (hu : IsDc u) (ha : H a = some u) (h : SqF K H b xs) : SqF K (upd H a (.frz od u)) b xs := by
  rcases h with ⟨o, h⟩ | h
  · refine .inl ⟨o, ?_⟩
    rw [upd_ne fun e => by subst e; rw [ha] at h; cases h; exact hu]
    exact h
  · exact .inr h
mutual
theorem R.lock (hu : IsDc u) (ha : H a = some u) : ∀ {d : D} {v : V} {F : List Addr}, R K Z H d v F → a ∉ F → R K Z (upd H a (.frz od u)) d v F
  | _, _, _, .non, _ => .non
  | _, _, _, .bl b, _ => .bl b
  | _, _, _, .int i, _ => .int i
  | _, _, _, .str s, _ => .str s
  | _, _, _, .tup h r, n => .tup (sqt_lock hu ha h) (Rs.lock hu ha r n)
  | _, _, _, .own h r, n => .own (by rw [upd_ne (fun e => n (by rw [e]; exact List.mem_cons_self))]; exact h) (Rs.lock hu ha r fun z => n (List.mem_cons_of_mem _ z))
  | _, _, _, .fzn h z r, n => .fzn (by rw [upd_ne (fun e => by subst e; rw [ha] at h; cases h; exact hu)]; exact h) z (Rs.lock hu ha r (by simp))
  | _, _, _, .knw h r, n => .knw (sqf_lock hu ha h) (Rs.lock hu ha r (by simp))
  | _, _, _, .dow h r, n => .dow (by
      obtain ⟨o, h1, h2⟩ := h
      exact ⟨o, by rw [upd_ne (fun e => n (by rw [e]; exact List.mem_cons_self))]; exact h1, h2⟩) (Rs.lock hu ha r fun z => n (List.mem_cons_of_mem _ z))
  | .dct _ t kvs, .ref b, _, .dfz h z r, n => by
    have r' := Rs.lock hu ha r (by simp)
    obtain ⟨o, h1, h2⟩ := h
    by_cases e : b = a
    · subst e
      rw [ha] at h1
      cases h1
      exact .dlk ⟨od, u, upd_same, h2⟩ r'
    · exact .dfz ⟨o, by rw [upd_ne e]; exact h1, h2⟩ z r'
  | _, _, _, .dlk h r, n => .dlk (by
      obtain ⟨o', o, h1, h2⟩ := h
      exact ⟨o', o, by rw [upd_ne (fun e => by subst e; rw [ha] at h1; cases h1; exact hu)]; exact h1, h2⟩) (Rs.lock hu ha r (by simp))
theorem Rs.lock (hu : IsDc u) (ha : H a = some u) : ∀ {ds : List D} {vs : List V} {F : List Addr}, Rs K Z H ds vs F → a ∉ F → Rs K Z (upd H a (.frz od u)) ds vs F
  | _, _, _, .nil, _ => .nil
  | _, _, _, .cons r rs, n => .cons (R.lock hu ha r fun z => n (List.mem_append_left _ z)) (Rs.lock hu ha rs fun z => n (List.mem_append_right _ z))
end
theorem sqt_unlk {b : Addr} {xs : List V} (hu : IsDc u) (ha : H a = some (.frz od u)) (h : SqT K H b xs) : SqT K (upd H a u) b xs := by
  rcases h with (h | ⟨o, h⟩) | h
  · exact .inl (.inl (by rw [upd_ne fun e => by subst e; rw [ha] at h; cases h]; exact h))
  · exact .inl (.inr ⟨o, by rw [upd_ne fun e => by subst e; rw [ha] at h; cases h; exact hu]; exact h⟩)
  · exact .inr h
theorem sqf_unlk {b : Addr} {xs : List V} (hu : IsDc u) (ha : H a = some (.frz od u)) (h : SqF K H b xs) : SqF K (upd H a u) b xs := by
  rcases h with ⟨o, h⟩ | h
  · exact .inl ⟨o, by rw [upd_ne fun e => by subst e; rw [ha] at h; cases h; exact hu]; exact h⟩
  · exact .inr h
mutual
theorem R.unlk (hu : IsDc u) (ha : H a = some (.frz od u)) (hz : Z a) : ∀ {d : D} {v : V} {F : List Addr}, R K Z H d v F → R K Z (upd H a u) d v F
  | _, _, _, .non => .non
  | _, _, _, .bl b => .bl b
  | _, _, _, .int i => .int i
  | _, _, _, .str s => .str s
  | _, _, _, .tup h r => .tup (sqt_unlk hu ha h) (Rs.unlk hu ha hz r)
  | _, _, _, .own h r => .own (by rw [upd_ne (fun e => by subst e; rw [ha] at h; cases h)]; exact h) (Rs.unlk hu ha hz r)
  | _, _, _, .fzn h z r => .fzn (by rw [upd_ne (fun e => by subst e; rw [ha] at h; cases h)]; exact h) z (Rs.unlk hu ha hz r)
  | _, _, _, .knw h r => .knw (sqf_unlk hu ha h) (Rs.unlk hu ha hz r)
  | _, _, _, .dow h r => .dow (by
      obtain ⟨o, h1, h2⟩ := h
      exact ⟨o, by rw [upd_ne (fun e => by subst e; rw [ha] at h1; cases h1; exact h2.dc)]; exact h1, h2⟩) (Rs.unlk hu ha hz r)
  | _, _, _, .dfz h z r => .dfz (by
      obtain ⟨o, h1, h2⟩ := h
      exact ⟨o, by rw [upd_ne (fun e => by subst e; rw [ha] at h1; cases h1; exact h2.dc)]; exact h1, h2⟩) z (Rs.unlk hu ha hz r)
  | .dct _ t kvs, .ref b, _, .dlk h r => by
    have r' := Rs.unlk hu ha hz r
    obtain ⟨o', o, h1, h2⟩ := h
    by_cases e : b = a
    · subst e
      rw [ha] at h1
      cases h1
      exact .dfz ⟨u, upd_same, h2⟩ hz r'
    · exact .dlk ⟨o', o, by rw [upd_ne e]; exact h1, h2⟩ r'
theorem Rs.unlk (hu : IsDc u) (ha : H a = some (.frz od u)) (hz : Z a) : ∀ {ds : List D} {vs : List V} {F : List Addr}, Rs K Z H ds vs F → Rs K Z (upd H a u) ds vs F
  | _, _, _, .nil => .nil
  | _, _, _, .cons r rs => .cons (R.unlk hu ha hz r) (Rs.unlk hu ha hz rs)
end
theorem dom_upd {b : Addr} {o : HO} (h : H b ≠ none) : upd H a o b ≠ none := by
  by_cases e : b = a
  · subst e; rw [upd_same]; intro z; cases z
  · rw [upd_ne e]; exact h
theorem none_upd {b : Addr} {o : HO} (ha : H a ≠ none) (h : upd H a o b = none) : H b = none := by
  by_cases e : b = a
  · subst e; rw [upd_same] at h; cases h
  · rwa [upd_ne e] at h
theorem Rel.lock (hu : IsDc u) (ha : H a = some u) (rel : Rel K Z ρ σ H Fs) (hn : ∀ i, a ∉ Fs i) : Rel K Z ρ σ (upd H a (.frz od u)) Fs :=
  ⟨fun i d e => let ⟨v, h1, h2⟩ := rel.at_ i d e; ⟨v, h1, h2.lock hu ha (hn i)⟩, rel.nd, rel.dj, rel.nz, fun b h => dom_upd (rel.zt b h), fun i b h => dom_upd (rel.ft i b h), rel.len⟩
theorem Rel.unlk (hu : IsDc u) (ha : H a = some (.frz od u)) (hz : Z a) (rel : Rel K Z ρ σ H Fs) : Rel K Z ρ σ (upd H a u) Fs :=
  ⟨fun i d e => let ⟨v, h1, h2⟩ := rel.at_ i d e; ⟨v, h1, h2.unlk hu ha hz⟩, rel.nd, rel.dj, rel.nz, fun b h => dom_upd (rel.zt b h), fun i b h => dom_upd (rel.ft i b h), rel.len⟩
theorem Keep.unlk (hu : IsDc u) (ha : H a = some u) (k : Keep B (upd H a (.frz od u)) H') : Keep B H (upd H' a u) := by
  refine ⟨fun b o h n => ?_, fun b xs h => ?_, fun b o w h => ?_, fun b h => ?_⟩
  · by_cases e : b = a
    · subst e; rw [ha] at h; cases h; exact upd_same
    · rw [upd_ne e]; exact k.out b o (by rw [upd_ne e]; exact h) n
  · have e : b ≠ a := fun e => by subst e; rw [ha] at h; cases h; exact hu
    rw [upd_ne e]; exact k.tup b xs (by rw [upd_ne e]; exact h)
  · have e : b ≠ a := fun e => by subst e; rw [ha] at h; cases h; exact hu
    rw [upd_ne e]; exact k.frz b o w (by rw [upd_ne e]; exact h)
  · exact dom_upd (k.dom b (dom_upd h))
theorem Frm.unlk (hu : IsDc u) (ha : H a = some u) (f : Frm T Z ρ Fs (upd H a (.frz od u)) Z' ρ' Fs' H') : Frm T Z ρ Fs H Z' ρ' Fs' (upd H' a u) := by
  have nn : H a ≠ none := by rw [ha]; intro z; cases z
  exact ⟨f.sub, f.keep.unlk hu ha, fun j hj b hb => (f.c1 j hj b hb).imp id (none_upd nn), fun b h => (f.c3 b h).imp id fun h => h.imp id (none_upd nn), f.zz, f.len⟩
theorem Fin.unlk (hu : IsDc u) (ha : H a = some u) (hz : Z a) (f : Fin K W T Z ρ Fs σ (upd H a (.frz od u)) Z' ρ' Fs' σ' H') : H' a = some (.frz od u) ∧ Fin K W T Z ρ Fs σ H Z' ρ' Fs' σ' (upd H' a u) := by
  have e := f.frm.keep.frz a od u upd_same
  exact ⟨e, f.rel.unlk hu e (f.frm.zz a hz), f.frm.unlk hu ha, f.sg, f.sl⟩
theorem Val.unlk {O : List Nat} {x : Bool} {d : D} {v : V} {F : List Addr} (hu : IsDc u) (ha : H a = some (.frz od u)) (hz : Z a) (w : Val K Z H Fs O x d v F) : Val K Z (upd H a u) Fs O x d v F := ⟨w.r.unlk hu ha hz, w.ori, w.exc⟩
theorem Cf.unlk {x : Bool} {F : List Addr} (ha : H a = some u) (c : Cf T Fs (upd H a (.frz od u)) x F) : Cf T Fs H x F := fun h b hb => (c h b hb).imp id (none_upd (by rw [ha]; intro z; cases z))

/-- the slot's value is frozen -/
theorem ali_step {i : Nat} {d : D} (rel : Rel K Z ρ σ H Fs) (h : ρ[i]? = some (some d)) : Rel K (fun a => Z a ∨ a ∈ Fs i) (ρ.set i (some d.frz)) σ H (fun j => if j = i then [] else Fs j) ∧
    Frm [i] Z ρ Fs H (fun a => Z a ∨ a ∈ Fs i) (ρ.set i (some d.frz)) (fun j => if j = i then [] else Fs j) H := by
  obtain ⟨v, hs, r⟩ := rel.at_ i d h
  have hl := Env.lt h
  have r2 : R K (fun a => Z a ∨ a ∈ Fs i) H d.frz v [] := r.freeze (fun _ h => .inl h) fun a h => .inr h
  refine ⟨⟨fun j d e => ?_, (rel.drop i).nd, (rel.drop i).dj, fun j a h z => ?_, fun a h => ?_, (rel.drop i).ft, by rw [List.length_set]; exact rel.len⟩,
    ⟨fun j hj => ?_, Keep.refl _ _, fun j hj a h => ?_, fun a h => ?_, fun a h => .inl h, by rw [List.length_set]⟩⟩
  · by_cases p : j = i
    · subst p
      rw [List.getElem?_set_self hl] at e
      cases e
      simp only [if_pos rfl]
      exact ⟨v, hs, r2⟩
    · rw [List.getElem?_set_ne (Ne.symm p)] at e
      simp only [if_neg p]
      obtain ⟨v', h1, h2⟩ := rel.at_ j d e
      exact ⟨v', h1, h2.keep (Keep.refl M0 H) (fun _ h => .inl h) (fun _ _ h => h) fun _ _ h => h⟩
  · by_cases p : j = i
    · simp [p] at h
    · simp only [if_neg p] at h
      exact z.elim (rel.nz j a h) fun z => p (rel.dj j i a h z)
  · exact h.elim (rel.zt a) (rel.ft i a)
  · have p : j ≠ i := fun e => hj (by rw [e]; exact List.mem_cons_self)
    exact ⟨if_neg p, List.getElem?_set_ne (Ne.symm p)⟩
  · have e : j = i := by simpa using hj
    subst e
    simp at h
  · exact h.elim .inl fun h => .inr (.inl ⟨i, List.mem_cons_self, h⟩)

/-! ### walks over the dict of a slot -/
def iKy (i : Nat) : M (List D) := fun ρ => (Env.at ρ i).bind fun d => match d with
  | .dct false _ kvs => some (kvs.map (·.1), ρ)
  | _ => none
def Lkd (i : Nat) (σ : L2.St) (H : Hp) : Prop := ∃ d od u, σ[i]? = some (some (.ref d)) ∧ H d = some (.frz od u) ∧ IsDc u
def tVIk (K : PySem.W.Frag) (i : Nat) : TI := fun σ H Rk => Lkd i σ H ∧ tVI K [] [] (iKy i) σ H Rk
end
section
variable {X : Cx} {T O W Wg Tg Wb Tb Tt Te : List Nat} {x : Bool} {tg iter elt e : Expr} {ifs : List Expr} {bd : List Stmt} {pos npos : Pos} {y : Str} {g : D → Env → Option Env} {sb : MS} {ft : M Bool} {fe : M D}
theorem rs_keys {K : PySem.W.Frag} {Z : Addr → Prop} {H : Hp} (k : Key) : R K Z H (kD k) (kV k) [] := by
  cases k with
  | inl i => exact .int i
  | inr s => exact .str s
theorem rs_keyss {K : PySem.W.Frag} {Z : Addr → Prop} {H : Hp} : ∀ ks : List Key, Rs K Z H (ks.map kD) (ks.map kV) []
  | [] => .nil
  | k :: r => .cons0 (rs_keys k) (rs_keyss r)
theorem piv_key (i : Nat) (hN : X.N[i]? = some y := by rfl) (hv : Vis X.env.scope y := by first | exact Or.inl rfl | exact Or.inr (Or.inl rfl) | exact Or.inr (Or.inr rfl)) (hd : (y == ("__debug__" : Str)) = false := by decide) (hcd : (y == ("__classdict__" : Str)) = false := by decide) :
    PI X tg (.Name y npos) (tVIk X.K i) := by
  refine PI.imp (pi_keys (pe_var hN hv hd hcd)) fun σ H Rk h => ?_
  obtain ⟨⟨d, od, u, hs, hd, hu⟩, Z, ρ, Fs, items, ρ', rel, hf, q⟩ := h
  unfold iKy at hf
  obtain ⟨o, h0, hf⟩ := Option.bind_eq_some_iff.mp hf
  obtain ⟨v, hv, r⟩ := rel.at_ i o (Env.at_some h0)
  rw [hs] at hv
  cases hv
  generalize Fs i = F0 at r
  split at hf
  · rename_i t kvs
    cases hf
    refine ⟨.ref d, hs, d, od, rfl, ?_⟩
    cases r with
    | dfz h1 _ _ =>
      obtain ⟨o, h1, h2⟩ := h1
      rw [hd] at h1
      cases h1
      exact h2.dc.elim
    | dlk h1 _ =>
      obtain ⟨o', o, h1, h2⟩ := h1
      rw [hd] at h1
      cases h1
      cases t with
      | false =>
        obtain ⟨ws, rfl, hk, _⟩ := h2
        refine .inl ⟨ws, hd, ?_⟩
        have wk := walk_keys (d := d) (o := od) (kvs := ws)
        rw [show ws.length = (kvs.map (·.1)).length by rw [hk, List.length_map]] at wk
        refine q _ H Z Fs [] _ _ rel (Frm.refl _) wk (fun _ _ h => (by cases h)) fun M Z2 H2 k hA hZ zz => ⟨k.frz _ _ _ hd, fun j x h d' hy hi => ?_⟩
        obtain ⟨rfl, kk, v, h3, rfl⟩ := hy
        rw [hk, List.getElem?_map, h3] at hi
        cases hi
        exact ⟨Keep.refl _ _, rs_keys kk⟩
      | true =>
        obtain ⟨ws, rfl, hk, _⟩ := h2
        refine .inr ⟨ws, hd, ?_⟩
        have wk := walk_keysT (d := d) (o := od) (kvs := ws)
        rw [show ws.length = (kvs.map (·.1)).length by rw [hk, List.length_map]] at wk
        refine q _ H Z Fs [] _ _ rel (Frm.refl _) wk (fun _ _ h => (by cases h)) fun M Z2 H2 k hA hZ zz => ⟨k.frz _ _ _ hd, fun j x h d' hy hi => ?_⟩
        obtain ⟨rfl, kk, v, b, h3, rfl, h4⟩ := hy
        rw [hk, List.getElem?_map, h3] at hi
        cases hi
        exact ⟨Keep.refl _ _, .tup (SqT.of h4) (rs_keyss kk)⟩
  · cases hf
/-- what the slot's dict must be -/
def fzSlot (i : Nat) (ρ : Env) : Option Env := (Env.at ρ i).bind fun d => match d with
  | .dct _ _ _ => some (ρ.set i (some d.frz))
  | _ => none
/-- frozen first; then it is locked here, or it was locked before -/
theorem lock_cases {K : PySem.W.Frag} {Z : Addr → Prop} {ρ ρ1 : Env} {σ : L2.St} {H : Hp} {Fs : Ft} {i : Nat} (rel : Rel K Z ρ σ H Fs) (hf : fzSlot i ρ = some ρ1) :
    ∃ Z1 Fs1, Rel K Z1 ρ1 σ H Fs1 ∧ Frm [i] Z ρ Fs H Z1 ρ1 Fs1 H ∧ (Lkd i σ H ∨ ∃ a u, IsDc u ∧ H a = some u ∧ Z1 a ∧ (∀ j, a ∉ Fs1 j) ∧ ∀ od, Rel K Z1 ρ1 σ (upd H a (.frz od u)) Fs1 ∧ Lkd i σ (upd H a (.frz od u))) := by
  unfold fzSlot at hf
  obtain ⟨d, h0, hf⟩ := Option.bind_eq_some_iff.mp hf
  have hi := Env.at_some h0
  split at hf
  · rename_i o t kvs
    cases hf
    obtain ⟨rel1, f1⟩ := ali_step rel hi
    refine ⟨_, _, rel1, f1, ?_⟩
    have hi1 : (ρ.set i (some (D.frz (.dct o t kvs))))[i]? = some (some (.dct false t (D.frzP kvs))) := by rw [List.getElem?_set_self (Env.lt hi)]; rfl
    obtain ⟨v, hs, r⟩ := rel1.at_ i _ hi1
    have e0 : (if i = i then ([] : List Addr) else Fs i) = [] := if_pos rfl
    rw [e0] at r
    cases r with
    | @dfz a _ _ _ h1 hz h3 =>
      obtain ⟨u, h1, h2⟩ := h1
      have hn := fun j (z : a ∈ (fun j => if j = i then [] else Fs j) j) => rel1.nz j a z hz
      exact .inr ⟨a, u, h2.dc, h1, hz, hn, fun od => ⟨rel1.lock h2.dc h1 hn, a, od, u, hs, upd_same, h2.dc⟩⟩
    | @dlk a _ _ _ h1 h3 =>
      obtain ⟨od, u, h1, h2⟩ := h1
      exact .inl ⟨a, od, u, hs, h1, h2.dc⟩
  · cases hf
theorem PS.orLock {st : Stmt} {t : TS} (h : PS X st t) : PS X st (fun D σ H => t D σ H ∨ tLock t D σ H) :=
  ⟨fun pins s σ H D I q => q.elim (h.run pins s σ H D I) ((ps_lock h).run pins s σ H D I)⟩
theorem PE.orLock {e : Expr} {t : TE} (h : PE X e t) : PE X e (fun σ H Q => t σ H Q ∨ tLockE t σ H Q) :=
  ⟨fun pins s σ H Q I q => q.elim (h.run pins s σ H Q I) ((pe_lock h).run pins s σ H Q I)⟩
/-- a statement that walks over the slot's dict, which is frozen from here on -/
def sDk (i : Nat) (f : MS) : MS := fun ρ => (fzSlot i ρ).bind f
theorem tvs_lock {K : PySem.W.Frag} {t : TS} (i : Nat) {f : MS} (hi : ∀ D σ H, Lkd i σ H → tVS K W T f D σ H → t D σ H) {D : Ends} {σ : L2.St} {H : Hp} (h : tVS K W (i :: T) (sDk i f) D σ H) : t D σ H ∨ tLock t D σ H := by
  obtain ⟨Z, ρ, Fs, r, rel, hf, h1, h2, h3, h4⟩ := h
  unfold sDk at hf
  obtain ⟨ρ1, h0, hf⟩ := Option.bind_eq_some_iff.mp hf
  obtain ⟨Z1, Fs1, rel1, f1, lk⟩ := lock_cases rel h0
  have fn0 : Fin K [] [i] Z ρ Fs σ H Z1 ρ1 Fs1 σ H := Fin.of rel1 f1
  rcases lk with lk | ⟨a, u, hu, ha, hz, hn, lk⟩
  · exact .inl (hi D σ H lk ⟨Z1, ρ1, Fs1, r, rel1, hf, fun ρ2 e σ2 H2 Z2 Fs2 fn => h1 _ e _ _ _ _ (fn0.trans fn), fun ρ2 e σ2 H2 Z2 Fs2 fn => h2 _ e _ _ _ _ (fn0.trans fn), fun ρ2 e σ2 H2 Z2 Fs2 fn => h3 _ e _ _ _ _ (fn0.trans fn),
      fun d ρ2 e σ2 v H2 Z2 Fs2 F fn w c => h4 _ _ e _ _ _ _ _ _ (fn0.trans fn) w (Cf.late f1 c)⟩)
  · refine .inr ⟨a, u, ha, hu.mut, fun od => hi _ σ _ (lk od).2 ⟨Z1, ρ1, Fs1, r, (lk od).1, hf, fun ρ2 e σ2 H2 Z2 Fs2 fn => ?_, fun ρ2 e σ2 H2 Z2 Fs2 fn => ?_, fun ρ2 e σ2 H2 Z2 Fs2 fn => ?_, fun d ρ2 e σ2 v H2 Z2 Fs2 F fn w c => ?_⟩⟩
    · obtain ⟨e1, e2⟩ := fn.unlk hu ha hz
      exact ⟨e1, h1 _ e _ _ _ _ (fn0.trans e2)⟩
    · obtain ⟨e1, e2⟩ := fn.unlk hu ha hz
      exact ⟨e1, h2 _ e _ _ _ _ (fn0.trans e2)⟩
    · obtain ⟨e1, e2⟩ := fn.unlk hu ha hz
      exact ⟨e1, h3 _ e _ _ _ _ (fn0.trans e2)⟩
    · obtain ⟨e1, e2⟩ := fn.unlk hu ha hz
      exact ⟨e1, h4 _ _ e _ _ _ _ _ _ (fn0.trans e2) (w.unlk hu e1 (fn.frm.zz a hz)) (Cf.late f1 (c.unlk ha))⟩
theorem psv_forD (i : Nat) (hp : PassesOwn (model X.prog X.w) X.A X.env X.xe) (hc : X.calm = true) (hi : PI X tg iter (tVIk X.K i)) (hg : PGV X Wg Tg tg g) (hb : PSsV X Wb Tb bd sb)
    (hs : ∀ x, foldedSetIterable iter X.env x = pure x := by intro _; rfl) : PSV X (Wg ++ Wb) (i :: (Tg ++ Tb)) (.For tg iter bd [] pos) (sDk i (sFor (iKy i) g sb)) :=
  PS.imp (PS.orLock (ps_for hp hc hi hg hb hs)) fun D σ H h => tvs_lock i (T := [] ++ (Tg ++ Tb)) (t := tFor (tVIk X.K i) (tVG X.K Wg Tg g) (tVS X.K Wb Tb sb)) (fun D σ H lk q => ⟨lk, tv_for (T := []) (O := []) rfl q⟩) h
/-- a value that walks over the slot's dict -/
def fDk (i : Nat) (f : M D) : M D := fun ρ => (fzSlot i ρ).bind f
theorem tve_lock {K : PySem.W.Frag} {t : TE} (i : Nat) {f : M D} (hi : ∀ σ H Q, Lkd i σ H → tV K T [] true f σ H Q → t σ H Q) {σ : L2.St} {H : Hp} {Q : VK} (h : tV K (i :: T) [] true (fDk i f) σ H Q) : t σ H Q ∨ tLockE t σ H Q := by
  obtain ⟨Z, ρ, Fs, d, ρ', rel, hf, q⟩ := h
  unfold fDk at hf
  obtain ⟨ρ1, h0, hf⟩ := Option.bind_eq_some_iff.mp hf
  obtain ⟨Z1, Fs1, rel1, f1, lk⟩ := lock_cases rel h0
  rcases lk with lk | ⟨a, u, hu, ha, hz, hn, lk⟩
  · exact .inl (hi σ H Q lk ⟨Z1, ρ1, Fs1, d, ρ', rel1, hf, fun v H' Z' Fs' F rel' f' w c => q v H' Z' Fs' F rel' (f1.trans f') w (Cf.late f1 c)⟩)
  · refine .inr ⟨a, u, ha, hu.mut, fun od => hi σ _ _ (lk od).2 ⟨Z1, ρ1, Fs1, d, ρ', (lk od).1, hf, fun v H' Z' Fs' F rel' f' w c => ?_⟩⟩
    have e := f'.keep.frz a od u upd_same
    have z' := f'.zz a hz
    exact ⟨e, q v _ Z' Fs' F (rel'.unlk hu e z') (f1.trans (f'.unlk hu ha)) (w.unlk hu e z') (Cf.late f1 (c.unlk ha))⟩
theorem pev_lcD (i : Nat) {scope : Scope} {own : List (Str × Nat)} (hc : X.calm = true) (hN : X.N.Nodup) (hi : PI X tg iter (tVIk X.K i)) (ok : BlkOk X.N X.env.scope scope own)
    (hg : ∀ (s : Shared) (H : Hp) (C : Addr) (cl : List (Str × Addr)) (fp : List Addr), PGV (X.blk s H scope (compEnvC scope cl C X.env) fp) Wg Tg tg g) (ht : ∀ (s : Shared) (H : Hp) (C : Addr) (cl : List (Str × Addr)) (fp : List Addr), PTsV (X.blk s H scope (compEnvC scope cl C X.env) fp) Tt ifs ft)
    (he : ∀ (s : Shared) (H : Hp) (C : Addr) (cl : List (Str × Addr)) (fp : List Addr), PEV (X.blk s H scope (compEnvC scope cl C X.env) fp) Te [] true elt fe) (hW : Wg.all (fun i => (own.map (·.2)).contains i) = true := by rfl)
    (hs : ∀ x, foldedSetIterable iter X.env x = pure x := by intro _; rfl) :
    PEV X (i :: ([] ++ (((own.map (·.2)) ++ (Tg ++ (Tt ++ Te))) ++ (own.map (·.2))))) [] true (.ListComp elt [⟨tg, iter, ifs, 0⟩] scope pos) (fDk i (fComp (own.map (·.2)) (iKy i) g ft fe)) :=
  PE.imp (PE.orLock (pe_lc hc hN hi ok hg ht he hs)) fun σ H Q h => by
    refine tve_lock i ?_ h
    intro σ H Q lk q
    exact ⟨lk, tv_comp (X := X) (T := []) (O := []) _ hW rfl q⟩
theorem psv_setLcD (i j : Nat) {z : Str} {py spos : Pos} {scope : Scope} {own : List (Str × Nat)} (hc : X.calm = true) (hN : X.N.Nodup) (hsw : swapsWith (.ListComp elt [⟨tg, iter, ifs, 0⟩] scope pos) (some (.Name z py)) spos.line X.env = pure true) (hi : PI X tg iter (tVIk X.K i)) (ok : BlkOk X.N X.env.scope scope own)
    (hg : ∀ (s : Shared) (H : Hp) (C : Addr) (cl : List (Str × Addr)) (fp : List Addr), PGV (X.blk s H scope (compEnvC scope cl C X.env) fp) Wg Tg tg g) (ht : ∀ (s : Shared) (H : Hp) (C : Addr) (cl : List (Str × Addr)) (fp : List Addr), PTsV (X.blk s H scope (compEnvC scope cl C X.env) fp) Tt ifs ft)
    (he : ∀ (s : Shared) (H : Hp) (C : Addr) (cl : List (Str × Addr)) (fp : List Addr), PEV (X.blk s H scope (compEnvC scope cl C X.env) fp) Te [] true elt fe) (hy : X.N[j]? = some z := by rfl) (hyl : X.env.scope.names.lookup z = some .local := by rfl)
    (hW : Wg.all (fun i => (own.map (·.2)).contains i) = true := by rfl) (hs : ∀ x, foldedSetIterable iter X.env x = pure x := by intro _; rfl) :
    PSV X [j] (i :: (j :: ([] ++ (((own.map (·.2)) ++ (Tg ++ (Tt ++ Te))) ++ (own.map (·.2)))))) (.Assign [.Name z py] (.ListComp elt [⟨tg, iter, ifs, 0⟩] scope pos) spos) (sDk i (sSet j (fComp (own.map (·.2)) (iKy i) g ft fe))) :=
  PS.imp (PS.orLock (ps_setLc (g := tVG X.K Wg Tg g) (tt := tVT X.K Tt ft) (te := tV X.K Te [] true fe) hc hN hy hyl hsw hi ok hg ht he hs)) fun D σ H h => tvs_lock i (fun D σ H lk q => by
    obtain ⟨Z, ρ, Fs, r, rel, hf, h1, h2, h3, h4⟩ := q
    unfold sSet at hf
    obtain ⟨⟨d, ρ1⟩, hp, hf⟩ := Option.bind_eq_some_iff.mp hf
    cases hf
    exact ⟨lk, tv_comp (X := X) (T := []) (O := []) _ hW rfl ⟨Z, ρ, Fs, d, ρ1, rel, hp, fun v H' Z' Fs' F rel' f' w c => h1 _ rfl _ _ _ _ (Fin.put rel' f' w c)⟩⟩) h
end
end Vl

namespace Vl
open PySem PySem.Spec PyProof.Rows L2

/-! ### enumerate of a tuple -/
abbrev tuIt (l : Addr) : Obj := { cls := .type "tuple_iterator", data := .fields #[.ref l, .int 0 0] }
abbrev enOb (b : Addr) : Obj := { cls := .type "enumerate", data := .fields #[.none, .bool false, .ref b, rawInt 0, .none, .none] }
theorem enum_newT (l : Addr) (items : Array Value) (n : Nat) (dct : Option Addr) (sl : Array (Option Value)) :
    Meets (Builtin.«enumerate.__new__» ⟨[.type "enumerate", .ref l], []⟩) (fun _ R s => s.heap.get? l = some { cls := .type "tuple", dict := dct, data := .seq items n, slots := sl } ∧
      R (.ok (.ret (.ref (s.heap.push (tuIt l)).objs.size))) { s with heap := (s.heap.push (tuIt l)).push (enOb s.heap.objs.size) }) :=
  .of_wp fun prog w A R s h => by
    obtain ⟨hp, g, d, tk, os⟩ := s
    obtain ⟨hl, h⟩ := h
    have hsub := PySem.sub_enumerate
    have hL : Heap.IsTuple (Shared.heap ⟨hp, g, d, tk, os⟩) l items := ⟨_, hl, rfl, n, rfl⟩
    wp_walk using AutoSeq1.wpAny_loadPart' hl
    refine wpAny_stack_any fun st => wpAny_pure ?_
    split
    · rename_i c _ _ _ _ _
      cases (c == Value.type "enumerate")
      · wp_walk using AutoSeq1.wpAny_loadPart' hl, wpAny_pyIter_tuple hL
        exact ⟨_, rfl, h⟩
      · wp_walk using AutoSeq1.wpAny_loadPart' hl, wpAny_pyIter_tuple hL
        exact ⟨_, rfl, h⟩
    · wp_walk using AutoSeq1.wpAny_loadPart' hl, wpAny_pyIter_tuple hL
      exact ⟨_, rfl, h⟩
section
variable {prog : Program} {w : World} {A : Around} {E : Value → Shared → Prop} {s : Shared}
theorem call_enum_tup {l : Addr} {items : Array Value} {Q : Value → Shared → Prop} (hL : s.heap.IsTuple l items)
    (h : ∀ h', IsEnum h' (s.heap.objs.size + 1) s.heap.objs.size 0 .none → h'.IsTupleIter s.heap.objs.size l 0 → (∀ b o, s.heap.get? b = some o → h'.get? b = some o) → Q (.ref (s.heap.objs.size + 1)) { s with heap := h' }) :
    wpAny (model prog w) A (call (.type "enumerate") [.ref l]) Q E s := by
  obtain ⟨⟨c, dct, dt, sl⟩, hl, hc, n, hd⟩ := hL
  replace hc : c = .type "tuple" := hc
  replace hd : dt = .seq items n := hd
  subst hc hd
  refine callType_new F.called_enumerate (by decide) (F.typeCall_enumerate_1 _) (F.newCall_enumerate_1 _) (fun obj => F.args_object_init_2 obj _) F.entry_enumerate_new (enum_newT l items n dct sl) ⟨hl, ?_⟩
  have hz : (s.heap.push (tuIt l)).objs.size = s.heap.objs.size + 1 := Heap.size_push ..
  show _ ∧ _
  rw [hz]
  have he : IsEnum ((s.heap.push (tuIt l)).push (enOb s.heap.objs.size)) (s.heap.objs.size + 1) s.heap.objs.size 0 .none := by
    have e := Heap.get?_push_size (s.heap.push (tuIt l)) (o := enOb s.heap.objs.size) rfl
    rw [hz] at e
    exact e
  exact ⟨⟨_, he, rfl⟩, h _ he ⟨_, Heap.get?_push_of_some _ (Heap.get?_push_size _ rfl), rfl, rfl⟩ fun b o x => Heap.get?_push_of_some _ (Heap.get?_push_of_some _ x)⟩
end
def Itf (K : PySem.W.Frag) (a : Addr) : It :=
  ⟨fun i H => ∃ (xs : List V) (x : V), SqT K H a xs ∧ xs[i]? = some x, fun i H v H' => ∃ T x, v = .ref T ∧ H T = none ∧ H' = upd H T (.tup [.int (i : Nat), x]) ∧ ∀ xs, SqT K H a xs → xs[i]? = some x, fun i H => ∃ xs : List V, SqT K H a xs ∧ xs.length = i⟩
theorem turn_enumT {P : Program} {w : World} {K : PySem.W.Frag} {elts : List Expr} {kk : Nat} {tpos : Pos} (a e it : Addr) :
    Turn P w K (.Tuple elts kk tpos) (Itf K a) [e, it] e (fun i h => (∃ old, IsEnum h e it ((i : Nat) : Int) old) ∧ h.IsTupleIter it a i ∧ e ≠ it ∧ a ≠ it ∧ a ≠ e) where
  mem := by simp
  obj := fun i h st b hb => by
    obtain ⟨⟨old, he⟩, ⟨o, ho, hc, hd⟩, _⟩ := st
    have e' : b = e ∨ b = it := by simpa using hb
    rcases e' with z | z
    · rw [z]; exact ⟨_, he, fun v q => nomatch q⟩
    · rw [z]; exact ⟨o, ho, fun v q => by rw [hd] at q; cases q⟩
  keep := fun i h h' st k => let ⟨⟨old, he⟩, hi, hne⟩ := st; ⟨⟨old, k e (by simp) _ he⟩, hi.at fun o q => k it (by simp) o q, hne⟩
  item := by
    intro X hP hw hK hc i pins s σ H E I hf st hg
    subst hP hw hK
    obtain ⟨⟨old, he⟩, hit, hne, hai, hae⟩ := st
    obtain ⟨xs, x, hq, hx⟩ := hg
    obtain ⟨its, rv, p, hz⟩ := I.tuple hq
    obtain ⟨u, hu, ru⟩ := rv.get hx
    have hel : e < s.heap.objs.size := Heap.lt_size he
    have hil : it < s.heap.objs.size := by obtain ⟨_, q, _⟩ := hit; exact Heap.lt_size q
    have hlt : i < its.toArray.size := by rw [List.size_toArray]; exact (List.getElem?_eq_some_iff.mp hu).1
    refine wpAny_pyNext_enum_itemD (n := its.toArray.size) (Draws.tuple (A := X.A.in1) (show X.A.in1.handled = none from I.ok.hd hc) it a hai its.toArray) he ⟨hit, p⟩ hlt hne (by simp [hne, Ne.symm hae]) fun y h' tk hy ho hst' hT hsz hk => ?_
    have ey : y = u := Option.some.inj (hy.symm.trans (by simpa using hu))
    subst ey
    refine ⟨_, rfl, wpAny_letOwnedTupleGo_enum (s := { s with heap := h', toks := tk + 1 }) ho fun h'' he' sb => ?_⟩
    have hT2 : h''.get? s.heap.objs.size = some { cls := .type "tuple", data := .seq #[.int i tk, y] } := (sb.2 _ (Nat.ne_of_gt hel)).trans hT
    have new : ObjOk X.prog X.w (upd H s.heap.objs.size (.tup [.int (i : Nat), x])) h'' s.heap.objs.size (.tup [.int (i : Nat), x]) :=
      ⟨by show 2 ≤ sizeLine; decide, [.int i tk, y], .cons ⟨_, rfl⟩ (.cons ru .nil), ⟨_, hT2, rfl, _, rfl⟩⟩
    have I1 : Inv X pins σ (upd H s.heap.objs.size (.tup [.int (i : Nat), x])) { s with heap := h'', toks := tk + 1 } :=
      I.turnedNew (ch := [e, it]) (fun b ob hb q => (sb.2 b (fun z => hb (by simp [z]))).trans (hk b ob (fun z => hb (by simp [z])) (fun z => hb (by simp [z])) q)) hf (Nat.le_refl _) new
    refine ⟨.ref s.heap.objs.size, _, I1, rfl, ⟨_, x, rfl, I.hok.fresh (Nat.le_refl _), rfl, fun ys hy => by rw [I.tuple_inj hy hq]; exact hx⟩, ⟨⟨y, ?_⟩, hst'.1.at fun o q => (sb.2 it (Ne.symm hne)).trans q, hne, hai, hae⟩, fun b hb => ?_⟩
    · have e1 : ((i + 1 : Nat) : Int) = (i : Int) + 1 := by omega
      rw [e1]; exact he'
    · have hb' : b < s.heap.objs.size := by
        have e' : b = e ∨ b = it := by simpa using hb
        rcases e' with z | z
        · rw [z]; exact hel
        · rw [z]; exact hil
      rw [upd_ne (Nat.ne_of_lt hb')]
      exact (hf b hb).1
  done := by
    intro X hP hw hK hc i pins s σ H E I hf st hg
    subst hP hw hK
    obtain ⟨⟨old, he⟩, hit, hne, hai, hae⟩ := st
    obtain ⟨xs, hq, hx⟩ := hg
    obtain ⟨its, rv, p, hz⟩ := I.tuple hq
    obtain ⟨f0, f1, f2, f3, f4, f5⟩ := hf it (by simp)
    have hl := rv.length
    have hn : i = its.toArray.size := by rw [List.size_toArray]; omega
    rw [hn] at he hit
    exact wpAny_pyNext_enum_endD (n := its.toArray.size) (Draws.tuple (A := X.A.in1) (show X.A.in1.handled = none from I.ok.hd hc) it a hai its.toArray) he ⟨hit, p⟩ fun h' eb => ⟨rfl, I.turned (t' := s.toks) (fun b o hb q => eb b o hb q) f0 f1 f3 f4 f5⟩
  self := fun A i s Q E st h => let ⟨⟨_, he⟩, _⟩ := st; wpAny_pyIter_enum he h
theorem walk_enumT {K : PySem.W.Frag} {a : Addr} {xs : List V} : Walk (Itf K a) xs.length (fun H => SqT K H a xs) (YPair (fun i => some (.int (i : Nat))) (fun i => xs[i]?)) := by
  refine ⟨fun i _ hi q => ⟨xs, xs[i], q, by simp [hi]⟩, fun _ q => ⟨xs, q, rfl⟩, fun i H v H' _ q y => ?_⟩
  obtain ⟨T, x, h1, h2, h3, h4⟩ := y
  exact ⟨T, .int (i : Nat), x, h1, h2, h3, rfl, h4 xs q⟩
def iEnumA (K : PySem.W.Frag) (te : TE) : TI := fun σ H R => te σ H fun v H1 => ∃ a, v = .ref a ∧ ((∃ xs, SqL K H1 a xs ∧ R (Ite K a) H1) ∨ ∃ xs, SqT K H1 a xs ∧ R (Itf K a) H1)
theorem pi_enumA {X : Cx} {e : Expr} {te : TE} {p pos tpos : Pos} {elts : List Expr} {kk : Nat} (hg : Gl X "enumerate") (hm : X.mg "enumerate" = none) (he : PE X e te) (hs : starEach [e] X.env = (false, eval e X.env) :: starEach [] X.env := by rfl) :
    PI X (.Tuple elts kk tpos) (.Call (.Name "enumerate" p) [e] [] pos) (iEnumA X.K te) := by
  refine ⟨fun pins s σ H R I h => ?_⟩
  refine Call_ (ld_blt I hg hm boot_enumerate (PyProof.Rows.callWith_type1 (args_cons (thn (he.run pins s σ H _ I h) fun u s1 ⟨v, H1, I1, r1, a, ex, q⟩ => args_nil ?_) hs) hs rfl))
  subst ex
  obtain rfl : u = Value.ref a := r1
  have fp : ∀ b ∈ [s1.heap.objs.size + 1, s1.heap.objs.size], FpOk X pins H1 b := fun b hb => by
    have e' : b = s1.heap.objs.size + 1 ∨ b = s1.heap.objs.size := by simpa using hb
    have hle : s1.heap.objs.size ≤ b := by
      rcases e' with z | z
      · rw [z]; exact Nat.le_add_right _ _
      · rw [z]; exact Nat.le_refl _
    exact I1.fpOk hle (I1.hok.fresh hle)
  rcases q with ⟨xs, hq, q⟩ | ⟨xs, hq, q⟩
  · obtain ⟨its, rv, p', hz⟩ := I1.list hq
    refine call_enumerate_list p'.isList fun h' he hit hsz hk => wpAny_pyIter_enum he ?_
    exact ⟨s1.heap.objs.size + 1, [s1.heap.objs.size + 1, s1.heap.objs.size], _, _, H1, rfl, I1.kept (t' := s1.toks) hk, turn_enum a (s1.heap.objs.size + 1) s1.heap.objs.size, ⟨⟨.none, he⟩, hit, Nat.succ_ne_self _⟩, fp, q⟩
  · obtain ⟨its, rv, p', hz⟩ := I1.tuple hq
    have hlt : a < s1.heap.objs.size := by obtain ⟨o, ho, _⟩ := p'; exact Heap.lt_size ho
    refine call_enum_tup p' fun h' he hit hk => wpAny_pyIter_enum he ?_
    exact ⟨s1.heap.objs.size + 1, [s1.heap.objs.size + 1, s1.heap.objs.size], _, _, H1, rfl, I1.kept (t' := s1.toks) hk, turn_enumT a (s1.heap.objs.size + 1) s1.heap.objs.size, ⟨⟨.none, he⟩, hit, Nat.succ_ne_self _, Nat.ne_of_lt hlt, Nat.ne_of_lt (Nat.lt_succ_of_lt hlt)⟩, fp, q⟩
/-- the pairs of an index and an item -/
def enumD : Nat → List D → List D
  | _, [] => []
  | i, d :: r => .tup [.int (i : Nat), d] :: enumD (i + 1) r
theorem enumD_length : ∀ (i : Nat) (l : List D), (enumD i l).length = l.length
  | _, [] => rfl
  | i, _ :: r => congrArg (· + 1) (enumD_length (i + 1) r)
theorem enumD_get : ∀ (l : List D) (i j : Nat), (enumD i l)[j]? = (l[j]?).map fun d => .tup [.int ((i + j : Nat) : Int), d]
  | [], i, j => by simp [enumD]
  | d :: r, i, 0 => by simp [enumD]
  | d :: r, i, j + 1 => by
    have e := enumD_get r (i + 1) j
    rw [show i + 1 + j = i + (j + 1) by omega] at e
    simpa [enumD] using e
def iEnm (f : M D) : M (List D) := fun ρ => (f ρ).bind fun p => (itemsOf p.1).bind fun l => some (enumD 0 l, p.2)
section
variable {X : Cx} {T O : List Nat} {x : Bool} {e : Expr} {f : M D}
theorem stay_pair {K : PySem.W.Frag} {Z : Addr → Prop} {H : Hp} {A : List Addr} {G : Hp → Prop} {l : List D} {xs : List V}
    (st : ∀ (M : Addr → Prop) (Z2 : Addr → Prop) (H2 : Hp), Keep M H H2 → (∀ a ∈ A, ¬ M a) → (∀ a, Z a → ¬ M a) → (∀ a, Z a → Z2 a) → G H2 ∧ Rs K Z2 H2 l xs []) :
    Stay K Z H A G (YPair (fun i => some (.int (i : Nat))) (fun i => xs[i]?)) (enumD 0 l) := fun M Z2 H2 k hA hZ zz => by
  obtain ⟨g, rs⟩ := st M Z2 H2 k hA hZ zz
  refine ⟨g, fun i v h d hy hi => ?_⟩
  obtain ⟨T, a, b, rfl, hT, rfl, ha, hb⟩ := hy
  cases ha
  rw [enumD_get] at hi
  obtain ⟨d', hd, rfl⟩ := Option.map_eq_some_iff.mp hi
  obtain ⟨w, G', h1, h2, h3⟩ := rs.get hd
  have e : b = w := Option.some.inj (hb.symm.trans h1)
  subst e
  have e2 : G' = [] := by
    cases G' with
    | nil => rfl
    | cons x r => exact absurd (h3 x List.mem_cons_self) (by simp)
  subst e2
  have k1 : Keep M0 H2 (upd H2 T (.tup [.int (i : Nat), b])) := Keep.new hT
  refine ⟨k1, .tup (SqT.of upd_same) (.cons0 ?_ (.cons0 (h2.keep0 k1) .nil))⟩
  rw [Nat.zero_add]
  exact .int _
theorem piv_enum {p pos tpos : Pos} {elts : List Expr} {kk : Nat} (hg : Gl X "enumerate") (hm : X.mg "enumerate" = none) (he : PEV X T O x e f) (hs : starEach [e] X.env = (false, eval e X.env) :: starEach [] X.env := by rfl) :
    PIV X T O (.Tuple elts kk tpos) (.Call (.Name "enumerate" p) [e] [] pos) (iEnm f) := by
  refine PI.imp (pi_enumA hg hm he hs) fun σ H Rk h => ?_
  obtain ⟨Z, ρ, Fs, items, ρ', rel, hf, q⟩ := h
  unfold iEnm at hf
  obtain ⟨⟨d, ρ1⟩, h1, hf⟩ := Option.bind_eq_some_iff.mp hf
  obtain ⟨l, h2, hf⟩ := Option.bind_eq_some_iff.mp hf
  cases hf
  refine ⟨Z, ρ, Fs, d, _, rel, h1, fun v H' Z' Fs' F rel' f' w c => ?_⟩
  have w0 := w.r
  cases d <;> simp only [itemsOf] at h2 <;> try (cases h2)
  · split at h2
    · rename_i hn
      cases h2
      obtain ⟨a, vs, e, hq, hl, st⟩ := w.r.tup_keep (Z' := Z') (H' := H') hn
      refine ⟨a, e, .inr ⟨vs, hq, ?_⟩⟩
      have wk := walk_enumT (K := X.K) (a := a) (xs := vs)
      rw [← hl, ← enumD_length 0] at wk
      exact q _ H' Z' Fs' F _ _ rel' f' wk w.ori (stay_pair fun M Z2 H2 k _ hZ zz => st M Z2 H2 k hZ zz)
    · cases h2
  · split at h2
    · rename_i hn
      cases h2
      obtain ⟨a, vs, e, hq, hl, st⟩ := w.r.lst_keep (Z' := Z') (H' := H') hn
      refine ⟨a, e, .inl ⟨vs, hq, ?_⟩⟩
      have wk := walk_enum (K := X.K) (a := a) (xs := vs)
      rw [← hl, ← enumD_length 0] at wk
      exact q _ H' Z' Fs' F _ _ rel' f' wk w.ori (stay_pair st)
    · cases h2
  · split at h2
    · cases h2
      obtain ⟨a, vs, e, hq, hl, st⟩ := w.r.scr_keep (Z' := Z') (H' := H')
      refine ⟨a, e, .inl ⟨vs, hq, ?_⟩⟩
      have wk := walk_enum (K := X.K) (a := a) (xs := vs)
      rw [← hl, ← enumD_length 0] at wk
      exact q _ H' Z' Fs' F _ _ rel' f' wk w.ori (stay_pair st)
    · cases h2
end
end Vl

namespace Vl
open PySem PySem.Spec PyProof.Rows L2

section
variable {K : PySem.W.Frag} {Z : Addr → Prop} {H : Hp}
/-! ### dict(d), list(d) -/
def gDict : List D → Option D
  | [.dct _ false kvs] => if D.noOwnP kvs = true then some (.dct true false kvs) else none
  | _ => none
def rDictD : List V → Hp → VK → Prop := fun xs H Q => ∃ (a : Addr) (kvs : List (Key × V)), xs = [.ref a] ∧ Rd H a (.dK kvs) ∧ ∀ p, H p = none → Q (.ref p) (upd H p (.dK kvs))
def rListK : List V → Hp → VK → Prop := fun xs H Q => ∃ (a : Addr) (kvs : List (Key × V)), xs = [.ref a] ∧ Rd H a (.dK kvs) ∧ ∀ p, H p = none → Q (.ref p) (upd H p (.lst (kvs.map fun kv => kV kv.1)))
theorem cs_dict : ClS K rDictD gDict := fun Z H ds vs F1 d Q rs hg q => by
  unfold gDict at hg
  split at hg
  · rename_i o kvs
    split at hg
    · rename_i hn
      cases hg
      obtain ⟨v, rfl, rv⟩ := rs.one_inv
      obtain ⟨a, ws, G, rfl, hr, dr, hs⟩ := rv.dct_rd
      have e0 : G = [] := dr.rs.no (by rw [← noOwnP_eq]; exact hn)
      subst e0
      refine ⟨a, ws, rfl, hr, fun p hp => ?_⟩
      have k : Keep M0 H (upd H p (.dK ws)) := Keep.new hp
      exact q _ _ [p] k (DRel.at upd_same ⟨dr.ks, dr.rs.keep0 k⟩) (by simp) fun b hb => by rw [List.mem_singleton.mp hb]; exact hp
    · cases hg
  · cases hg
def rListA (K : PySem.W.Frag) : List V → Hp → VK → Prop := fun xs H Q => (∃ p ys, xs = [.ref p] ∧ (SqL K H p ys ∨ SqT K H p ys) ∧ ∀ l, H l = none → Q (.ref l) (upd H l (.lst ys))) ∨ rListK xs H Q
def gListA (ds : List D) : Option D := match ds with
  | [.dct _ false kvs] => some (.lst true (kvs.map (·.1)))
  | _ => gList ds
theorem rs_kDs : ∀ ws : List (Key × V), Rs K Z H (ws.map fun p => kD p.1) (ws.map fun p => kV p.1) []
  | [] => .nil
  | p :: r => .cons0 (rs_keys p.1) (rs_kDs r)
theorem cs_listA : ClS K (rListA K) gListA := fun Z H ds vs F1 d Q rs hg q => by
  unfold gListA at hg
  split at hg
  · rename_i o kvs
    cases hg
    obtain ⟨v, rfl, rv⟩ := rs.one_inv
    obtain ⟨a, ws, G, rfl, hr, dr, hs⟩ := rv.dct_rd
    refine .inr ⟨a, ws, rfl, hr, fun p hp => ?_⟩
    have k : Keep M0 H (upd H p (.lst (ws.map fun kv => kV kv.1))) := Keep.new hp
    refine q _ _ [p] k (.own upd_same ?_) (by simp) fun b hb => by rw [List.mem_singleton.mp hb]; exact hp
    rw [dr.ks]
    exact rs_kDs ws
  · exact .inl (cs_list Z H ds vs F1 d Q rs hg q)
theorem call_listA {X : Cx} (hc : X.calm = true) : CallR X (.type "list") (rListA X.K) := CallR.or call_list_of (call_listD hc)
/-! ### comparing with {} -/
def rEqZ (K : PySem.W.Frag) : R2 := fun x y H Q => rEqD K x y H Q ∨ ∃ a b ks, x = .ref a ∧ y = .ref b ∧ Rd H a (.dK ks) ∧ Rd H b (.dK []) ∧ Q (.bl ks.isEmpty) H
theorem op_eqZ {X : Cx} (hu : X.A.units + 64 < cLine) : OpR X (compareOp .Eq) (rEqZ X.K) := OpR.or (op_eqD hu) fun pins s σ H x y v u Q I rx ry h => by
  obtain ⟨a, b, ks, rfl, rfl, ea, eb, q⟩ := h
  obtain rfl : v = Value.ref a := rx
  obtain rfl : u = Value.ref b := ry
  obtain ⟨_, ya, va, ra, da⟩ := dk_rd I.hok ea
  obtain ⟨_, yb, vb, rb, db⟩ := dk_rd I.hok eb
  have hl : vb.length = 0 := by rw [← rb.length]; rfl
  refine PySem.W.keq_eq (knd := mixKind X.prog X.w) (r := true) ya yb da db (by omega) (fun h0 => ?_) (fin_bl I q ?_)
  · have e : va.length = 0 := by first | (have := of_decide_eq_true h0; omega) | omega
    have e2 : ks = [] := List.eq_nil_of_length_eq_zero (by rw [ra.length]; exact e)
    subst e2
    exact hits_all rb ra (fun p hp => by cases hp)
  · cases ks <;> simp [hl, ← ra.length]
def gEqZ (d e : D) : Option D := match d, e with
  | .dct _ false kvs, .dct _ false [] => some (.bl kvs.isEmpty)
  | _, _ => gEq d e
theorem os_eqZ : OpS K (rEqZ K) gEqZ := fun Z H d1 d2 v1 v2 F1 F2 d Q r1 r2 hg q => by
  unfold gEqZ at hg
  split at hg
  · rename_i o kvs o2
    cases hg
    obtain ⟨a, ws, G, rfl, hr, dr, hs⟩ := r1.dct_rd
    obtain ⟨b, ws2, G2, rfl, hr2, dr2, hs2⟩ := r2.dct_rd
    have e := dr2.nil_
    subst e
    refine .inr ⟨a, b, ws, rfl, rfl, hr, hr2, ?_⟩
    have e : ws.isEmpty = kvs.isEmpty := by
      have := congrArg List.length dr.ks
      rw [List.length_map, List.length_map] at this
      cases kvs <;> cases ws <;> first | rfl | (simp at this)
    rw [e]
    exact q _ H [] (Keep.refl _ _) (.bl _) List.nodup_nil fun _ h => (by cases h)
  · exact .inl (os_eq Z H d1 d2 v1 v2 F1 F2 d Q r1 r2 hg q)
end
section
variable {X : Cx} {T T0 T1 T2 O O0 O1 O2 : List Nat} {x x0 x1 x2 : Bool} {o e f : Expr} {fo fk fx : M D} {pos npos apos cpos : Pos} {y : Str}
/-! ### d.get(k), d.get(k, x) -/
def gGet2 (d0 k z : D) : Option D := match d0 with
  | .dct _ false kvs => (keyOf k).bind fun _ => some ((lookD kvs k).getD z)
  | _ => none
def fGet2 (O0 T1 T2 : List Nat) (fo fk fx : M D) : M D := fun ρ => (fo ρ).bind fun p => (fk p.2).bind fun q => (fx q.2).bind fun r => if (safe O0 (T1 ++ T2) p.1 && q.1.noOwn && r.1.noOwn) = true then (gGet2 p.1 q.1 r.1).bind fun d => if d.noOwn = true then some (d, r.2) else none else none
theorem getD_of {K : PySem.W.Frag} {Z : Addr → Prop} {H : Hp} {kvs : List (D × D)} {ws : List (Key × V)} {F : List Addr} {k : Key} {z d : D} {w : V} (dr : DRel K Z H kD kvs ws F) (rz : R K Z H z w []) (e : (lookD kvs (kD k)).getD z = d) (hn : d.noOwn = true) : R K Z H d ((valV ws k).getD w) [] := by
  obtain ⟨h1, h2⟩ := dr.look kEq_kD k
  cases c : lookD kvs (kD k) with
  | none =>
    rw [c] at e
    cases e
    rw [h2 c]
    exact rz
  | some d' =>
    rw [c] at e
    cases e
    obtain ⟨v, G, z1, z2, z3⟩ := h1 _ c
    rw [z1]
    have e2 := z2.no hn
    subst e2
    exact z2
theorem pev_get2 (hu : X.A.units + 1 < cLine) (ho : PEV X T0 O0 x0 o fo) (hk : PEV X T1 O1 x1 e fk) (hx : PEV X T2 O2 x2 f fx) (m : M2 X o "get" apos e f cpos := by exact ⟨rfl, rfl, rfl, rfl⟩) :
    PEV X (T0 ++ (T1 ++ T2)) [] true (.Call (.Attribute o "get" apos) [e, f] [] cpos) (fGet2 O0 T1 T2 fo fk fx) := by
  refine PE.imp (pe_dget2 hu ho hk hx m) fun σ H Q h => ?_
  obtain ⟨Z, ρ, Fs, d, ρ', rel, hf, q⟩ := h
  unfold fGet2 at hf
  obtain ⟨⟨d0, ρ0⟩, h0, hf⟩ := Option.bind_eq_some_iff.mp hf
  obtain ⟨⟨dk, ρ1⟩, h1, hf⟩ := Option.bind_eq_some_iff.mp hf
  obtain ⟨⟨dx, ρ2⟩, h2, hf⟩ := Option.bind_eq_some_iff.mp hf
  split at hf
  · rename_i hs
    simp only [Bool.and_eq_true] at hs
    obtain ⟨⟨hs1, hs2⟩, hs3⟩ := hs
    obtain ⟨d', h3, hf⟩ := Option.bind_eq_some_iff.mp hf
    split at hf
    · rename_i hn
      cases hf
      have h3 : gGet2 d0 dk dx = some _ := h3
      unfold gGet2 at h3
      split at h3
      · rename_i o kvs
        obtain ⟨k, hkk, h3⟩ := Option.bind_eq_some_iff.mp h3
        cases h3
        refine ⟨Z, ρ, Fs, _, ρ0, rel, h0, fun v0 H0 Z0 Fs0 F0 rel0 f0 w0 c0 => ?_⟩
        obtain ⟨a, ws0, G0, rfl, hr0, _, _⟩ := w0.r.dct_rd
        refine ⟨a, rfl, .inl ⟨ws0, hr0⟩, Z0, ρ0, Fs0, dk, ρ1, rel0, h1, fun vk H1 Z1 Fs1 F1 rel1 f1 w1 c1 => ?_⟩
        refine ⟨Z1, ρ1, Fs1, dx, ρ2, rel1, h2, fun vx H2 Z2 Fs2 F2 rel2 f2 w2 c2 => ?_⟩
        have w0' := w0.keep rel0 (f1.trans f2) hs1
        obtain ⟨a', ws, G, e, hr, dr, hs⟩ := w0'.r.dct_rd
        cases e
        obtain ⟨rfl, rfl⟩ := w1.r.key hkk
        have e3 := w2.r.no hs3
        have rx := w2.r
        rw [e3] at rx
        refine ⟨valV ws k, .inl ⟨ws, k, hr, rfl, rfl⟩, ?_⟩
        have rr := getD_of (k := k) dr rx rfl hn
        exact q _ H2 Z2 Fs2 [] rel2 (f0.trans (f1.trans f2)) (Val.imm rr hn) Cf.nil
      · cases h3
    · cases hf
  · cases hf
/-! ### d.pop(k) -/
def gDpop (d0 k : D) : Option (D × D) := match d0 with
  | .dct true false kvs => (keyOf k).bind fun _ => if D.noOwnP kvs = true then (lookD kvs k).map fun d => (d, .dct true false (delD kvs k)) else none
  | _ => none
def fDpop (i : Nat) (fk : M D) : M D := fun ρ => (Env.at ρ i).bind fun o => match o with
  | .dct _ false _ => (fk ρ).bind fun p => (Env.at p.2 i).bind fun o' => (gDpop o' p.1).bind fun q => some (q.1, p.2.set i (some q.2))
  | _ => none
theorem lookD_mem : ∀ {kvs : List (D × D)} {k d : D}, lookD kvs k = some d → D.noOwnP kvs = true → d.noOwn = true
  | [], k, d, h, _ => by cases h
  | (k', d') :: r, k, d, h, hn => by
    have hn : (D.noOwn d' && D.noOwnP r) = true := hn
    rw [Bool.and_eq_true] at hn
    unfold lookD at h
    split at h
    · cases h; exact hn.1
    · exact lookD_mem h hn.2
theorem pev_dpop (i : Nat) (hk : PEV X T O x e fk)
    (hN : X.N[i]? = some y := by rfl) (hv : Vis X.env.scope y := by first | exact Or.inl rfl | exact Or.inr (Or.inl rfl) | exact Or.inr (Or.inr rfl)) (hd : (y == ("__debug__" : Str)) = false := by decide) (hcd : (y == ("__classdict__" : Str)) = false := by decide)
    (m : M1 X (.Name y npos) "pop" apos e cpos := by exact ⟨rfl, rfl, rfl, rfl⟩) : PEV X (T ++ [i]) [] true (.Call (.Attribute (.Name y npos) "pop" apos) [e] [] cpos) (fDpop i fk) := by
  refine PE.imp (pe_dpop1 (pe_var hN hv hd hcd) hk m) fun σ H Q h => ?_
  obtain ⟨Z, ρ, Fs, d, ρ', rel, hf, q⟩ := h
  unfold fDpop at hf
  obtain ⟨o, h0, hf⟩ := Option.bind_eq_some_iff.mp hf
  split at hf
  · obtain ⟨⟨dk, ρ1⟩, h1, hf⟩ := Option.bind_eq_some_iff.mp hf
    obtain ⟨o', h2, hf⟩ := Option.bind_eq_some_iff.mp hf
    obtain ⟨⟨d1, d'⟩, h3, hf⟩ := Option.bind_eq_some_iff.mp hf
    cases hf
    obtain ⟨v0, hv0, r0⟩ := rel.at_ i _ (Env.at_some h0)
    obtain ⟨a, ws0, G0, rfl, hr0, _, _⟩ := r0.dct_rd
    refine ⟨.ref a, hv0, a, rfl, .inl ⟨ws0, hr0⟩, Z, ρ, Fs, dk, ρ1, rel, h1, fun vk H1 Z1 Fs1 F1 rel1 f1 w1 c1 => ?_⟩
    have hio := Env.at_some h2
    obtain ⟨v1, hv1, r1⟩ := rel1.at_ i o' hio
    rw [hv0] at hv1
    cases hv1
    unfold gDpop at h3
    split at h3
    · rename_i kvs
      obtain ⟨k, hkk, h3⟩ := Option.bind_eq_some_iff.mp h3
      split at h3
      · rename_i hn
        obtain ⟨dd, hl, h3⟩ := Option.map_eq_some_iff.mp h3
        cases h3
        obtain ⟨rfl, rfl⟩ := w1.r.key hkk
        have nz1 := rel1.nz i
        have nd1 := rel1.nd i
        generalize hFi : Fs1 i = Fi at r1 nz1 nd1
        obtain ⟨a', ws, G, e, rfl, ha, dr⟩ := r1.dct_ow
        cases e
        have e0 : G = [] := dr.rs.no (by rw [← noOwnP_eq]; exact hn)
        subst e0
        obtain ⟨v, G2, z1, z2, z3⟩ := (dr.look kEq_kD k).1 d1 hl
        have e2 := z2.no (lookD_mem hl hn)
        subst e2
        refine ⟨ws, k, v, ha, rfl, z1, ?_⟩
        have kp : Keep (fun b => b = a) H1 (upd H1 a (.dK (dropK ws k))) := Keep.wr ha trivial
        have hz : ∀ b, Z1 b → ¬ b = a := fun b z e => nz1 a List.mem_cons_self (by rw [← e]; exact z)
        have dr2 := dr.del kEq_kD (k := k)
        obtain ⟨e1, e2, e3, e4, e5⟩ := mut_end (F := []) (F' := []) (F0' := [a]) rel1 f1 Cf.nil (fun j a h => (by cases h)) (fun a h => (by cases h)) hv0 (Env.lt hio) (kp.mono fun b e => by rw [hFi, e]; exact List.mem_cons_self)
          (DRel.at upd_same ⟨dr2.ks, dr2.rs.keep kp (fun _ h => h) hz fun b hb => (by cases hb)⟩) (by simp) (fun b hb => .inl (by rw [hFi]; exact hb))
        exact q v _ Z1 _ [] e1 e2 ⟨z2.keep kp (fun _ h => h) hz fun b hb => (by cases hb), fun j a h => (by cases h), fun _ => ⟨List.nodup_nil, fun _ h => (by cases h)⟩⟩ Cf.nil
      · cases h3
    · cases h3
  · cases hf
end
/-! ### min(d), max(d): keys that are ints -/
theorem list_getD {is : List Int} {i : Nat} (h : i < is.length) : is.getD i 0 = is[i] := by
  rw [List.getD_eq_getElem?_getD, List.getElem?_eq_getElem h]
  rfl
theorem key_vals {P : Program} {w : World} {is : List Int} {vs : List (Key × Value)} (hk : vs.map (·.1) = is.map Sum.inl) (i : Nat) (v : Value) : (∃ k x, vs[i]? = some (k, x) ∧ (mixKind P w).is k v = true) → ∃ t, v = Value.int (is.getD i 0) t := fun ⟨k, x, h1, h2⟩ => by
  have e1 : (vs.map (·.1))[i]? = some k := by rw [List.getElem?_map, h1] <;> rfl
  rw [hk, List.getElem?_map] at e1
  obtain ⟨j, hj, e2⟩ := Option.map_eq_some_iff.mp e1
  subst e2
  obtain ⟨t, e3⟩ := Value.isInt_shape (k := j) (v := v) h2
  exact ⟨t, by rw [e3, List.getD_eq_getElem?_getD, hj] <;> rfl⟩
def rKeyM (le : Int → Int → Prop) : List V → Hp → VK → Prop := fun vs H Q => ∃ (a : Addr) (kvs : List (Key × V)) (is : List Int), vs = [V.ref a] ∧ Rd H a (.dK kvs) ∧ kvs.map (·.1) = is.map Sum.inl ∧ is ≠ [] ∧ ∀ m, m ∈ is → (∀ j ∈ is, le m j) → Q (.int m) H
section
variable {X : Cx}
theorem cr_keyMin (hc : X.calm = true) : CallR X (.builtin "min") (rKeyM fun m j => m ≤ j) := fun pins s σ H vs us Q I r h => by
  obtain ⟨a, kvs, is, rfl, ha, hv, hne, q⟩ := h
  rw [Vals.ref1 r]
  obtain ⟨_, hsys, vs, rel, dof⟩ := dk_rd I.hok ha
  obtain ⟨ep, dat⟩ := dof.dictAt
  obtain ⟨ob, es, ho, _⟩ := id dat
  have hlt := Heap.lt_size ho
  have hk : vs.map (·.1) = is.map Sum.inl := (KV.keys rel).symm.trans hv
  have hlv : vs.length = is.length := by simpa using congrArg List.length hk
  have hlen : 0 < vs.length := hlv ▸ List.length_pos_iff.mpr hne
  refine call_min_walk (wpAny_pyIter_dict (knd := mixKind X.prog X.w) hsys dat ⟨_, _, _, _, _, _, _, rfl, Walks.dictKeys (knd := mixKind X.prog X.w) (A := X.A.in1) (I.ok.hd hc) s.heap.objs.size a (Nat.ne_of_lt hlt) vs ep, ⟨⟨_, Heap.get?_push_size _ rfl, rfl, rfl⟩, dat.keep fun b u e => Heap.get?_push_of_some _ e⟩, fun b hb => ?_, hlen, CmpOf.ints_lt (fun i => is.getD i 0) (key_vals hk), fun v h' tk hP hk' => ?_⟩)
  · have hb' : b = s.heap.objs.size ∨ b = a := by simpa using hb
    show b < (s.heap.push _).objs.size
    rw [Heap.size_push]
    rcases hb' with e | e
    · rw [e]; exact Nat.lt_succ_self _
    · rw [e]; exact Nat.lt_succ_of_lt hlt
  · obtain ⟨t, rfl⟩ := key_vals hk _ v hP
    obtain ⟨b1, b2⟩ := argBest_lt (fun i => is.getD i 0) (vs.length - 1)
    refine ⟨.int _, H, I.kept (t' := tk) fun b u e => hk' b u (fun hm => absurd (Heap.lt_size e) (by rw [List.mem_singleton.mp hm]; exact Nat.lt_irrefl _)) (Heap.get?_push_of_some _ e), ⟨t, rfl⟩, q _ ?_ fun j hj => ?_⟩
    · rw [list_getD (by omega)]; exact List.getElem_mem _
    · obtain ⟨i, hi, e⟩ := List.mem_iff_getElem.mp hj
      have e2 := b2 i (by omega)
      simp only [list_getD hi, e] at e2
      exact e2
theorem cr_keyMax (hc : X.calm = true) : CallR X (.builtin "max") (rKeyM fun m j => j ≤ m) := fun pins s σ H vs us Q I r h => by
  obtain ⟨a, kvs, is, rfl, ha, hv, hne, q⟩ := h
  rw [Vals.ref1 r]
  obtain ⟨_, hsys, vs, rel, dof⟩ := dk_rd I.hok ha
  obtain ⟨ep, dat⟩ := dof.dictAt
  obtain ⟨ob, es, ho, _⟩ := id dat
  have hlt := Heap.lt_size ho
  have hk : vs.map (·.1) = is.map Sum.inl := (KV.keys rel).symm.trans hv
  have hlv : vs.length = is.length := by simpa using congrArg List.length hk
  have hlen : 0 < vs.length := hlv ▸ List.length_pos_iff.mpr hne
  refine call_max_walk (wpAny_pyIter_dict (knd := mixKind X.prog X.w) hsys dat ⟨_, _, _, _, _, _, _, rfl, Walks.dictKeys (knd := mixKind X.prog X.w) (A := X.A.in1) (I.ok.hd hc) s.heap.objs.size a (Nat.ne_of_lt hlt) vs ep, ⟨⟨_, Heap.get?_push_size _ rfl, rfl, rfl⟩, dat.keep fun b u e => Heap.get?_push_of_some _ e⟩, fun b hb => ?_, hlen, CmpOf.ints_gt (fun i => is.getD i 0) (key_vals hk), fun v h' tk hP hk' => ?_⟩)
  · have hb' : b = s.heap.objs.size ∨ b = a := by simpa using hb
    show b < (s.heap.push _).objs.size
    rw [Heap.size_push]
    rcases hb' with e | e
    · rw [e]; exact Nat.lt_succ_self _
    · rw [e]; exact Nat.lt_succ_of_lt hlt
  · obtain ⟨t, rfl⟩ := key_vals hk _ v hP
    obtain ⟨b1, b2⟩ := argBest_gt (fun i => is.getD i 0) (vs.length - 1)
    refine ⟨.int _, H, I.kept (t' := tk) fun b u e => hk' b u (fun hm => absurd (Heap.lt_size e) (by rw [List.mem_singleton.mp hm]; exact Nat.lt_irrefl _)) (Heap.get?_push_of_some _ e), ⟨t, rfl⟩, q _ ?_ fun j hj => ?_⟩
    · rw [list_getD (by omega)]; exact List.getElem_mem _
    · obtain ⟨i, hi, e⟩ := List.mem_iff_getElem.mp hj
      have e2 := b2 i (by omega)
      simp only [list_getD hi, e] at e2
      exact e2
end
section
variable {K : PySem.W.Frag}
def keysI (kvs : List (D × D)) : Option (List Int) := ints? (kvs.map (·.1))
def gKeyM (m : List Int → Option Int) (g : List D → Option D) (ds : List D) : Option D := match ds with
  | [.dct _ false kvs] => (keysI kvs).bind fun is => (m is).map .int
  | _ => g ds
theorem keys_inl0 : ∀ {ws : List (Key × V)} {is : List Int}, (ws.map fun p => kD p.1) = is.map D.int → ws.map (·.1) = is.map Sum.inl
  | [], [], _ => rfl
  | [], _ :: _, h => by cases h
  | _ :: _, [], h => by cases h
  | (k, v) :: r, i :: is, h => by
    rw [List.map_cons, List.map_cons] at h
    injection h with h1 h2
    have ih := keys_inl0 h2
    cases k with
    | inl j => cases h1; rw [List.map_cons, List.map_cons, ih]
    | inr s => cases h1
theorem cs_keyM {le : Int → Int → Prop} {m : List Int → Option Int} {r : List V → Hp → VK → Prop} {g : List D → Option D} (hm : ∀ is x, m is = some x → x ∈ is ∧ ∀ j ∈ is, le x j) (hu : ∀ is x y, m is = some x → y ∈ is → (∀ j ∈ is, le y j) → y = x) (hs : ClS K r g) :
    ClS K (fun xs H Q => r xs H Q ∨ rKeyM le xs H Q) (gKeyM m g) := fun Z H ds vs F1 d Q rs hg q => by
  unfold gKeyM at hg
  split at hg
  · rename_i o kvs
    obtain ⟨is, h1, hg⟩ := Option.bind_eq_some_iff.mp hg
    obtain ⟨x, h2, rfl⟩ := Option.map_eq_some_iff.mp hg
    obtain ⟨v, rfl, rv⟩ := rs.one_inv
    obtain ⟨a, ws, G, rfl, hr, dr, _⟩ := rv.dct_rd
    have hk : ws.map (·.1) = is.map Sum.inl := keys_inl0 (by rw [← dr.ks]; exact ints?_of h1)
    refine .inr ⟨a, ws, is, rfl, hr, hk, fun e => ?_, fun y hy hle => ?_⟩
    · subst e
      have := (hm _ _ h2).1
      cases this
    · rw [hu is x y h2 hy hle]
      exact q _ H [] (Keep.refl _ _) (.int _) List.nodup_nil fun _ h => (by cases h)
  · exact .inl (hs Z H ds vs F1 d Q rs hg q)
theorem minI_ok (is : List Int) (x : Int) (h : minI is = some x) : x ∈ is ∧ ∀ j ∈ is, x ≤ j := by
  cases is with
  | nil => cases h
  | cons n r => cases h; exact foldl_min r n
theorem maxI_ok (is : List Int) (x : Int) (h : maxI is = some x) : x ∈ is ∧ ∀ j ∈ is, j ≤ x := by
  cases is with
  | nil => cases h
  | cons n r => cases h; exact foldl_max r n
def gMinA := gKeyM minI gMin
def gMaxA := gKeyM maxI gMax
theorem cs_minA : ClS K (fun xs H Q => rMinV K xs H Q ∨ rKeyM (fun m j => m ≤ j) xs H Q) gMinA :=
  cs_keyM minI_ok (fun is x y h hy hl => Int.le_antisymm (hl x (minI_ok is x h).1) ((minI_ok is x h).2 y hy)) cs_min
theorem cs_maxA : ClS K (fun xs H Q => rMaxV K xs H Q ∨ rKeyM (fun m j => j ≤ m) xs H Q) gMaxA :=
  cs_keyM maxI_ok (fun is x y h hy hl => Int.le_antisymm ((maxI_ok is x h).2 y hy) (hl x (maxI_ok is x h).1)) cs_max
end
theorem call_minA {X : Cx} (hc : X.calm = true) : CallR X (.builtin "min") (fun xs H Q => rMinV X.K xs H Q ∨ rKeyM (fun m j => m ≤ j) xs H Q) := CallR.or (call_minV hc) (cr_keyMin hc)
theorem call_maxA {X : Cx} (hc : X.calm = true) : CallR X (.builtin "max") (fun xs H Q => rMaxV X.K xs H Q ∨ rKeyM (fun m j => j ≤ m) xs H Q) := CallR.or (call_maxV hc) (cr_keyMax hc)
end Vl

namespace Vl
open PySem PySem.Spec PyProof.Rows L2

/-! ### range(a, b, -1) -/
def rgDown (i : Int) (n : Nat) : List D := (List.range n).map fun k => .int (i - (k : Nat))
theorem rgDown_length (i : Int) (n : Nat) : (rgDown i n).length = n := by unfold rgDown; rw [List.length_map, List.length_range]
theorem rgDown_get {i : Int} {n k : Nat} {d : D} (h : (rgDown i n)[k]? = some d) : d = .int (i - (k : Nat)) := by
  unfold rgDown at h
  rw [List.getElem?_map] at h
  obtain ⟨j, hj, rfl⟩ := Option.map_eq_some_iff.mp h
  have hk : k < n := by simpa using (List.getElem?_eq_some_iff.mp hj).1
  rw [List.getElem?_range hk] at hj
  cases hj
  rfl
def downOf (ds : List D) : Option (Int × Nat) := match ds with
  | [.int i, .int j, .int (-1)] => if (okR i && okR j) = true then some (i, (i - j).toNat) else none
  | _ => none
def iRg3 (fr : M (List D)) : M (List D) := fun ρ => (fr ρ).bind fun p => (downOf p.1).bind fun q => some (rgDown q.1 q.2, p.2)
section
variable {X : Cx} {T T1 O O1 W : List Nat} {x x1 : Bool} {a b c e tg : Expr} {f : M D} {fr : M (List D)} {p pos p2 pos2 : Pos}
theorem Rs.ints3 {K : PySem.W.Frag} {Z : Addr → Prop} {H : Hp} {i j k : Int} {vs : List V} {F : List Addr} (rs : Rs K Z H [.int i, .int j, .int k] vs F) : vs = [.int i, .int j, .int k] := by
  obtain ⟨v, ws, F1, F2, rfl, rfl, r, rs⟩ := rs.uncons
  rw [r.int_inv, rs.ints2]
theorem downOf_some {ds : List D} {q : Int × Nat} (h : downOf ds = some q) : ∃ j : Int, ds = [.int q.1, .int j, .int (-1)] ∧ q.2 = (q.1 - j).toNat ∧ -1000000000 ≤ q.1 ∧ q.1 ≤ 1000000000 ∧ -1000000000 ≤ j ∧ j ≤ 1000000000 := by
  unfold downOf at h
  split at h
  · rename_i i j
    split at h
    · rename_i ho
      cases h
      rw [Bool.and_eq_true] at ho
      obtain ⟨h1, h2⟩ := okR_of ho.1
      obtain ⟨h3, h4⟩ := okR_of ho.2
      exact ⟨j, rfl, rfl, h1, h2, h3, h4⟩
    · cases h
  · cases h
theorem piv_range3 (hg : Gl X "range") (hm : X.mg "range" = none) (ha : PAV X T O x [a, b, c] fr)
    (hs : starEach [a, b, c] X.env = (false, eval a X.env) :: starEach [b, c] X.env := by rfl) (hpl : (backTo pos (starEach [b, c] X.env)).any (·.1) = false := by rfl) : PIV X T [] tg (.Call (.Name "range" p) [a, b, c] [] pos) (iRg3 fr) := by
  refine PI.imp (pi_range3 hg hm ha hs hpl) fun σ H Rk h => ?_
  obtain ⟨Z, ρ, Fs, items, ρ', rel, hf, q⟩ := h
  unfold iRg3 at hf
  obtain ⟨⟨ds, ρ1⟩, h1, hf⟩ := Option.bind_eq_some_iff.mp hf
  obtain ⟨⟨i, n⟩, h2, hf⟩ := Option.bind_eq_some_iff.mp hf
  cases hf
  obtain ⟨j, hds, hnn, b1, b2, b3, b4⟩ := downOf_some h2
  simp only at hds b1 b2 hnn
  subst hnn
  subst hds
  refine ⟨Z, ρ, Fs, _, _, rel, h1, fun vs H' Z' Fs' F rel' f' w c => ?_⟩
  refine ⟨i, j, -1, (i - j).toNat, w.r.ints3, RgC.neg (by omega) (by omega) (by omega) (by omega), ?_⟩
  have wk := walk_rangeC (lo := i) (c := -1) (n := (i - j).toNat)
  have st : Stay X.K Z' H' [] (fun _ => True) (YFn fun k => .int (i + (k : Nat) * -1)) (rgDown i (i - j).toNat) := fun M Z2 H2 k hA hZ zz => by
    refine ⟨trivial, fun m v h d hy hd => ?_⟩
    obtain ⟨rfl, rfl⟩ := hy
    rw [rgDown_get hd]
    refine ⟨Keep.refl _ _, ?_⟩
    show R X.K Z2 h (.int (i - (m : Int))) (.int (i + (m : Int) * -1)) []
    rw [show i + (m : Int) * -1 = i - (m : Int) by omega]
    exact .int _
  exact q _ H' Z' Fs' [] _ _ rel' f' (by rw [rgDown_length]; exact wk) (fun _ _ h => (by cases h)) st
/-- tuple(range(a, b, -1)) -/
def tTupR3 (ta : TA) : TE := fun σ H Q => ta σ H fun vs H1 => ∃ (i j c : Int) (n : Nat), vs = [.int i, .int j, .int c] ∧ RgC i j c n ∧ n ≤ 2 ^ 24 ∧ ∀ q, H1 q = none → Q (.ref q) (upd H1 q (.tup ((List.range n).map fun k => V.int (i + (k : Nat) * c))))
theorem pe_tupR3 {ta : TA} (hc : X.calm = true) (hg : Gl X "tuple") (hm : X.mg "tuple" = none) (hg2 : Gl X "range") (hm2 : X.mg "range" = none) (ha : PA X [a, b, c] ta)
    (hs : starEach [a, b, c] X.env = (false, eval a X.env) :: starEach [b, c] X.env := by rfl) (hpl : (backTo pos2 (starEach [b, c] X.env)).any (·.1) = false := by rfl)
    (na : starEach [.Call (.Name "range" p2) [a, b, c] [] pos2] X.env = (false, eval (.Call (.Name "range" p2) [a, b, c] [] pos2) X.env) :: starEach [] X.env := by rfl) : PE X (.Call (.Name "tuple" p) [.Call (.Name "range" p2) [a, b, c] [] pos2] [] pos) (tTupR3 ta) := by
  refine ⟨fun pins s σ H Q I h => ?_⟩
  refine Call_ (ld_blt I hg hm boot_tuple (PyProof.Rows.callWith_type1 (args_cons (Call_ (ld_blt I hg2 hm2 boot_range (PyProof.Rows.callWith_type1 (thn (ha.run pos2 pins s σ H _ I h) fun us s1 ⟨vs, H1, I1, r1, q1⟩ => ?_) hs hpl))) na) na))
  obtain ⟨i, j, k, n, e, ⟨c0, c1, c2, c3⟩, hn, q⟩ := q1
  subst e
  obtain ⟨u, us, rfl, ⟨t, rfl⟩, rr⟩ : ∃ u r, us = u :: r ∧ RelV (V.int i) u ∧ Vals [V.int j, V.int k] r := by cases r1 with | cons h t => exact ⟨_, _, rfl, h, t⟩
  obtain ⟨u, v, rfl, ⟨t', rfl⟩, ⟨t'', rfl⟩⟩ := rr.two
  refine call_range_3 c0 (args_nil ?_) (.inl (PyProof.noPylong_small c1))
  have I2 : Inv X pins σ H1 { s1 with heap := s1.heap.push { cls := .type "range", data := .fields #[.int i t, .int j t', .int k t''] } } := I1.kept (t' := s1.toks) fun b o e => Heap.get?_push_of_some _ e
  refine call_tuple_range (n := n) (I2.ok.hd hc) (IsRange.new ..) c2 c3 hn fun h' tk acc hk hi => ?_
  have I3 : Inv X pins σ H1 { s1 with heap := h', toks := tk } := I2.kept hk
  have el : acc.toList.length = n := by rw [Array.length_toList]; exact hi.1
  have hv : Vals ((List.range n).map fun k' => V.int (i + (k' : Nat) * k)) acc.toList := by
    rw [← el]
    refine vals_of_get acc.toList _ fun m u hm => ?_
    obtain ⟨z, e⟩ := hi.2 m u (by rw [← hm, Array.getElem?_toList])
    exact ⟨z, e⟩
  refine ⟨.ref h'.objs.size, upd H1 h'.objs.size (.tup _), I3.laid (t' := tk) (fun c o e => Heap.get?_push_of_some _ e) (Nat.le_refl _) (show ObjOk X.prog X.w _ _ _ (.tup ((List.range n).map fun k' => V.int (i + (k' : Nat) * k))) from ⟨?_, acc.toList, hv, ?_⟩), rfl, q _ (I3.hok.fresh (Nat.le_refl _))⟩
  · rw [List.length_map, List.length_range, sizeLine_eq]; omega
  · rw [Array.toArray_toList]; exact IsTup.new _ _
def fTupRg3 (fr : M (List D)) : M D := fun ρ => (fr ρ).bind fun p => (downOf p.1).bind fun q => if decide (q.2 ≤ 100000) = true then some (.tup (rgDown q.1 q.2), p.2) else none
theorem rs_down {K : PySem.W.Frag} {Z : Addr → Prop} {H : Hp} (i : Int) (n : Nat) : Rs K Z H (rgDown i n) ((List.range n).map fun k => V.int (i + (k : Nat) * -1)) [] := by
  unfold rgDown
  induction (List.range n) with
  | nil => exact .nil
  | cons k r ih =>
    refine .cons0 ?_ ih
    show R K Z H (.int (i - (k : Int))) (.int (i + (k : Int) * -1)) []
    rw [show i + (k : Int) * -1 = i - (k : Int) by omega]
    exact .int _
theorem pev_tupRg3 (hc : X.calm = true) (hg : Gl X "tuple") (hm : X.mg "tuple" = none) (hg2 : Gl X "range") (hm2 : X.mg "range" = none) (ha : PAV X T O x [a, b, c] fr)
    (hs : starEach [a, b, c] X.env = (false, eval a X.env) :: starEach [b, c] X.env := by rfl) (hpl : (backTo pos2 (starEach [b, c] X.env)).any (·.1) = false := by rfl)
    (na : starEach [.Call (.Name "range" p2) [a, b, c] [] pos2] X.env = (false, eval (.Call (.Name "range" p2) [a, b, c] [] pos2) X.env) :: starEach [] X.env := by rfl) : PEV X T [] true (.Call (.Name "tuple" p) [.Call (.Name "range" p2) [a, b, c] [] pos2] [] pos) (fTupRg3 fr) := by
  refine PE.imp (pe_tupR3 hc hg hm hg2 hm2 ha hs hpl na) fun σ H Q h => ?_
  obtain ⟨Z, ρ, Fs, d, ρ', rel, hf, q⟩ := h
  unfold fTupRg3 at hf
  obtain ⟨⟨ds, ρ1⟩, h1, hf⟩ := Option.bind_eq_some_iff.mp hf
  obtain ⟨⟨i, n⟩, h2, hf⟩ := Option.bind_eq_some_iff.mp hf
  split at hf
  · rename_i hz
    cases hf
    obtain ⟨j, hds, hnn, b1, b2, b3, b4⟩ := downOf_some h2
    simp only at hds b1 b2 hnn
    subst hnn
    subst hds
    refine ⟨Z, ρ, Fs, _, _, rel, h1, fun vs H' Z' Fs' F rel' f' w c => ?_⟩
    have hz := of_decide_eq_true hz
    refine ⟨i, j, -1, (i - j).toNat, w.r.ints3, RgC.neg (by omega) (by omega) (by omega) (by omega), by simp only at hz; omega, fun p hp => ?_⟩
    refine new_tup hp (rs_down (K := X.K) (Z := Z') i _) fun v H2 F k r nd nw => ?_
    have fz := f'.trans (Frm.pureT [] k)
    rw [List.append_nil] at fz
    exact q v H2 Z' Fs' F (rel'.keep0 k) fz (Val.new rel' r nd nw) (Cf.new f'.keep nw)
  · cases hf

/-! ### reversed -/
def iRev (f : M D) : M (List D) := fun ρ => (f ρ).bind fun p => (itemsOf p.1).bind fun l => some (l.reverse, p.2)
theorem walk_revT {K : PySem.W.Frag} {a : Addr} {xs : List V} : Walk (RT.ItvT K a xs.length) xs.length (fun H => SqT K H a xs) (fun i H x H' => H' = H ∧ xs[xs.length - 1 - i]? = some x) :=
  ⟨fun i _ hi q => ⟨hi, xs, xs[xs.length - 1 - i]'(by omega), q, by simp [show xs.length - 1 - i < xs.length by omega]⟩, fun _ _ => Nat.le_refl _, fun _ _ _ _ _ q y => ⟨y.1, y.2 xs q⟩⟩
theorem stay_rev {K : PySem.W.Frag} {Z : Addr → Prop} {H : Hp} {A : List Addr} {G : Hp → Prop} {l : List D} {xs : List V} (hl : l.length = xs.length)
    (st : ∀ (M : Addr → Prop) (Z2 : Addr → Prop) (H2 : Hp), Keep M H H2 → (∀ a ∈ A, ¬ M a) → (∀ a, Z a → ¬ M a) → (∀ a, Z a → Z2 a) → G H2 ∧ Rs K Z2 H2 l xs []) :
    Stay K Z H A G (fun i H x H' => H' = H ∧ xs[xs.length - 1 - i]? = some x) l.reverse := fun M Z2 H2 k hA hZ zz => by
  obtain ⟨g, rs⟩ := st M Z2 H2 k hA hZ zz
  refine ⟨g, fun i v h d hy hi => ?_⟩
  obtain ⟨rfl, hx⟩ := hy
  have hlt : i < l.length := by
    have := (List.getElem?_eq_some_iff.mp hi).1
    simpa using this
  rw [List.getElem?_reverse hlt, hl] at hi
  exact ⟨Keep.refl _ _, rs.at0 hi hx⟩
theorem piv_rev (hg : Gl X "reversed") (hm : X.mg "reversed" = none) (he : PEV X T O x e f) (hs : starEach [e] X.env = (false, eval e X.env) :: starEach [] X.env := by rfl) : PIV X T O tg (.Call (.Name "reversed" p) [e] [] pos) (iRev f) := by
  refine PI.imp (RT.pi_revA hg hm he hs) fun σ H Rk h => ?_
  obtain ⟨Z, ρ, Fs, items, ρ', rel, hf, q⟩ := h
  unfold iRev at hf
  obtain ⟨⟨d, ρ1⟩, h1, hf⟩ := Option.bind_eq_some_iff.mp hf
  obtain ⟨l, h2, hf⟩ := Option.bind_eq_some_iff.mp hf
  cases hf
  refine ⟨Z, ρ, Fs, d, _, rel, h1, fun v H' Z' Fs' F rel' f' w c => ?_⟩
  cases d <;> simp only [itemsOf] at h2 <;> try (cases h2)
  · split at h2
    · rename_i hn
      cases h2
      obtain ⟨a, vs, e, hq, hl, st⟩ := w.r.tup_keep (Z' := Z') (H' := H') hn
      refine ⟨a, vs, e, .inr ⟨hq, ?_⟩⟩
      have wk := walk_revT (K := X.K) (a := a) (xs := vs)
      have e2 : (l.reverse).length = vs.length := by rw [List.length_reverse]; exact hl
      refine q _ H' Z' Fs' F _ _ rel' f' (by rw [e2]; exact wk) w.ori (stay_rev hl fun M Z2 H2 k _ hZ zz => st M Z2 H2 k hZ zz)
    · cases h2
  · split at h2
    · rename_i hn
      cases h2
      obtain ⟨a, vs, e, hq, hl, st⟩ := w.r.lst_keep (Z' := Z') (H' := H') hn
      refine ⟨a, vs, e, .inl ⟨hq, ?_⟩⟩
      have wk := walk_rev (K := X.K) (a := a) (xs := vs)
      have e2 : (l.reverse).length = vs.length := by rw [List.length_reverse]; exact hl
      refine q _ H' Z' Fs' F _ _ rel' f' (by rw [e2]; exact wk) w.ori (stay_rev hl st)
    · cases h2
  · split at h2
    · cases h2
      obtain ⟨a, vs, e, hq, hl, st⟩ := w.r.scr_keep (Z' := Z') (H' := H')
      refine ⟨a, vs, e, .inl ⟨hq, ?_⟩⟩
      have wk := walk_rev (K := X.K) (a := a) (xs := vs)
      have e2 : (l.reverse).length = vs.length := by rw [List.length_reverse]; exact hl
      refine q _ H' Z' Fs' F _ _ rel' f' (by rw [e2]; exact wk) w.ori (stay_rev hl st)
    · cases h2
end
end Vl

namespace Vl
open PySem PySem.Spec PyProof.Rows L2

/-! ### {k: v, ..} -/
def fPairs : List (M D × M D) → M (List (D × D))
  | [] => fun ρ => some ([], ρ)
  | (fk, fv) :: r => fun ρ => (fk ρ).bind fun p => (fv p.2).bind fun q => (fPairs r q.2).bind fun s => if (p.1.noOwn && q.1.noOwn && (keyOf p.1).isSome) = true then some ((p.1, q.1) :: s.1, s.2) else none
def fDisp (ps : List (M D × M D)) : M D := fun ρ => (fPairs ps ρ).bind fun p => some (.dct true false (p.1.foldl (fun acc kv => putD acc kv.1 kv.2) []), p.2)
/-- rules for the pairs -/
structure PPV (X : Cx) (pos : Pos) (T : List Nat) (keys : List (Option Expr)) (values : List Expr) (ps : List (M D × M D)) : Prop where
  ok : ∃ trs, PPs X pos keys values trs ∧ ∀ (Q : List (V × V) → Hp → Prop) (σ : L2.St) (Z : Addr → Prop) (ρ : Env) (Fs : Ft) (H : Hp) (kvs : List (D × D)) (ρ' : Env), Rel X.K Z ρ σ H Fs → fPairs ps ρ = some (kvs, ρ') →
    (∀ (ws : List (Key × V)) (H' : Hp) (Z' : Addr → Prop) (Fs' : Ft), Rel X.K Z' ρ' σ H' Fs' → Frm T Z ρ Fs H Z' ρ' Fs' H' → DRel X.K Z' H' kD kvs ws [] → Q (ws.map fun kv => (kV kv.1, kv.2)) H') → tPairs trs σ H Q
section
variable {X : Cx} {T1 T2 T3 O1 O2 : List Nat} {x1 x2 : Bool} {k v : Expr} {ks : List (Option Expr)} {vs : List Expr} {fk fv : M D} {ps : List (M D × M D)} {pos : Pos}
theorem ppv_nil : PPV X pos [] [] [] [] := ⟨[], pps_nil, fun Q σ Z ρ Fs H kvs ρ' rel hf q => by
  cases hf
  exact q [] H Z Fs rel (Frm.refl _) ⟨rfl, .nil⟩⟩
theorem ppv_cons (hk : PEV X T1 O1 x1 k fk) (hv : PEV X T2 O2 x2 v fv) (hr : PPV X pos T3 ks vs ps) : PPV X pos (T1 ++ (T2 ++ T3)) (some k :: ks) (v :: vs) ((fk, fv) :: ps) := by
  obtain ⟨trs, h1, h2⟩ := hr.ok
  refine ⟨_, pps_cons hk hv h1, fun Q σ Z ρ Fs H kvs ρ' rel hf q => ?_⟩
  unfold fPairs at hf
  obtain ⟨⟨dk, ρ1⟩, e1, hf⟩ := Option.bind_eq_some_iff.mp hf
  obtain ⟨⟨dv, ρ2⟩, e2, hf⟩ := Option.bind_eq_some_iff.mp hf
  obtain ⟨⟨rest, ρ3⟩, e3, hf⟩ := Option.bind_eq_some_iff.mp hf
  split at hf
  · rename_i hn
    cases hf
    simp only [Bool.and_eq_true] at hn
    obtain ⟨⟨n1, n2⟩, n3⟩ := hn
    obtain ⟨kk, hkk⟩ := Option.isSome_iff_exists.mp n3
    refine ⟨Z, ρ, Fs, dk, ρ1, rel, e1, fun w1 H1 Z1 Fs1 F1 rel1 f1 v1 c1 => ?_⟩
    refine ⟨Z1, ρ1, Fs1, dv, ρ2, rel1, e2, fun w2 H2 Z2 Fs2 F2 rel2 f2 v2 c2 => ?_⟩
    refine h2 _ σ Z2 ρ2 Fs2 H2 rest _ rel2 e3 fun ws H3 Z3 Fs3 rel3 f3 dr => ?_
    obtain ⟨rfl, rfl⟩ := v1.r.key hkk
    have e := v2.r.no n2
    have r2 := v2.r
    rw [e] at r2
    have r3 := r2.keep f3.keep f3.zz (fun a z ⟨j, hj, ha⟩ => rel2.nz j a ha z) fun _ h => (by cases h)
    exact q ((kk, w2) :: ws) H3 Z3 Fs3 rel3 (f1.trans (f2.trans f3)) (DRel.cons0 rfl r3 dr)
  · cases hf
theorem DRel.merge {K : PySem.W.Frag} {Z : Addr → Prop} {H : Hp} : ∀ {more : List (D × D)} {rs : List (Key × V)} {kvs : List (D × D)} {ws : List (Key × V)}, DRel K Z H kD more rs [] → DRel K Z H kD kvs ws [] → DRel K Z H kD (more.foldl (fun acc kv => putD acc kv.1 kv.2) kvs) (mergeK ws rs) []
  | [], rs, kvs, ws, r, r0 => by rw [r.nil_]; exact r0
  | p :: more, rs, kvs, ws, r, r0 => by
    obtain ⟨q, qs, F1, F2, rfl, k1, e0, r1, r2⟩ := r.uncons
    obtain ⟨e1, e2⟩ := app_eq_nil e0.symm
    subst e1 e2
    have e : DRel K Z H kD (putD kvs p.1 p.2) (putK ws q.1 q.2) [] := by rw [k1]; exact r0.put kEq_kD r1
    have ih := DRel.merge r2 e
    exact ih
theorem pev_disp {keys : List (Option Expr)} {values : List Expr} (h : PPV X pos T1 keys values ps) (hall : keys.all (·.isSome) = true := by rfl) (hl : keys.length = values.length := by rfl) (h0 : keys ≠ [] := by simp) (h15 : keys.length ≤ 15 := by decide) (hps : ps.length ≤ 15 := by decide) :
    PEV X T1 [] true (.Dict keys values pos) (fDisp ps) := by
  obtain ⟨trs, h1, h2⟩ := h.ok
  refine PE.imp (pe_disp h1 hall hl h0 h15) fun σ H Q h => ?_
  obtain ⟨Z, ρ, Fs, d, ρ', rel, hf, q⟩ := h
  unfold fDisp at hf
  obtain ⟨⟨kvs, ρ1⟩, e1, hf⟩ := Option.bind_eq_some_iff.mp hf
  cases hf
  intro p hp
  have k0 : Keep M0 H (upd H p (.dK [])) := Keep.new hp
  have rel0 := rel.keep0 k0
  refine h2 _ σ Z ρ Fs _ kvs _ rel0 e1 fun ws H' Z' Fs' rel' f' dr => ?_
  have np : ∀ j, p ∉ Fs j := fun j h => rel.ft j p h hp
  have hpp : H' p = some (.dK []) := f'.keep.out p _ upd_same fun ⟨j, _, h⟩ => np j h
  have hlen : ws.length ≤ 15 := by
    have e := congrArg List.length dr.ks
    rw [List.length_map, List.length_map] at e
    have : ∀ (ps : List (M D × M D)) (ρ : Env) (kvs : List (D × D)) (ρ' : Env), fPairs ps ρ = some (kvs, ρ') → kvs.length = ps.length := by
      intro ps
      induction ps with
      | nil => intro ρ kvs ρ' h; cases h; rfl
      | cons a r ih =>
        intro ρ kvs ρ' h
        unfold fPairs at h
        obtain ⟨_, _, h⟩ := Option.bind_eq_some_iff.mp h
        obtain ⟨_, _, h⟩ := Option.bind_eq_some_iff.mp h
        obtain ⟨⟨rest, ρ3⟩, e3, h⟩ := Option.bind_eq_some_iff.mp h
        split at h
        · cases h
          rw [List.length_cons, List.length_cons, ih _ _ _ e3]
        · cases h
    rw [← e, this _ _ _ _ e1]
    exact hps
  refine ⟨hpp, ws, rfl, hlen, ?_⟩
  -- the new dict is nobody's yet
  have nz : ¬ Z' p := fun z => by
    rcases f'.c3 p z with z | ⟨j, _, z⟩ | z
    · exact rel.zt p z hp
    · exact np j z
    · rw [upd_same] at z; cases z
  have nF : ∀ j, p ∉ Fs' j := fun j h => by
    by_cases hj : j ∈ T1
    · rcases f'.c1 j hj p h with ⟨m, _, z⟩ | z
      · exact np m z
      · rw [upd_same] at z; cases z
    · rw [(f'.sub j hj).1] at h; exact np j h
  have kw : Keep (fun a => a = p) H' (upd H' p (.dK (mergeK [] ws))) := Keep.wr hpp trivial
  have rel2 : Rel X.K Z' ρ1 σ (upd H' p (.dK (mergeK [] ws))) Fs' := ⟨fun i d e => let ⟨v, h1, h2⟩ := rel'.at_ i d e; ⟨v, h1, h2.keep kw (fun _ h => h) (fun a z e => nz (by rw [← e]; exact z)) fun a ha e => nF i (by rw [← e]; exact ha)⟩,
    rel'.nd, rel'.dj, rel'.nz, fun a h => kw.dom a (rel'.zt a h), fun i a h => kw.dom a (rel'.ft i a h), rel'.len⟩
  have dr2 := DRel.merge dr (⟨rfl, .nil⟩ : DRel X.K Z' H' kD [] [] [])
  have fK : Keep (fun a => ∃ j ∈ T1, a ∈ Fs j) H (upd H' p (.dK (mergeK [] ws))) := (k0.trans f'.keep (M := fun a => ∃ j ∈ T1, a ∈ Fs j) (fun _ h => h.elim) fun a h => .inl h).trans kw (fun _ h => h) fun a e => .inr (by rw [e]; exact hp)
  have nn : ∀ {a : Addr}, upd H p (.dK []) a = none → H a = none := fun {a} h => by
    by_cases e : a = p
    · rw [e]; exact hp
    · rwa [upd_ne e] at h
  exact q (.ref p) _ Z' Fs' [p] rel2 ⟨f'.sub, fK, fun j hj a ha => (f'.c1 j hj a ha).imp id nn, fun a h => (f'.c3 a h).imp id fun h => h.imp id nn, f'.zz, f'.len⟩
    ⟨DRel.at upd_same ⟨dr2.ks, dr2.rs.keep kw (fun _ h => h) (fun a z e => nz (by rw [← e]; exact z)) fun _ h => (by cases h)⟩, fun j a h1 h2 => absurd h2 (by rw [List.mem_singleton.mp h1]; exact nF j), fun _ => ⟨by simp, fun a ha => by rw [List.mem_singleton.mp ha]; exact nz⟩⟩
    fun _ a ha => .inr (by rw [List.mem_singleton.mp ha]; exact hp)
end
end Vl

namespace Vl
open PySem PySem.Spec PyProof.Rows L2
section
variable {X : Cx} {T O W Wg Tg Wb Tb Tt Te : List Nat} {x : Bool} {tg iter elt e : Expr} {ifs : List Expr} {pos npos : Pos} {y : Str} {g : D → Env → Option Env} {fi : M (List D)} {ft : M Bool} {fe : M D}
theorem pev_lcV {scope : Scope} {own : List (Str × Nat)} (vs : List Nat) (hc : X.calm = true) (hN : X.N.Nodup) (hi : PIV X T O tg iter fi) (ok : BlkOk X.N X.env.scope scope own)
    (hg : ∀ (s : Shared) (H : Hp) (C : Addr) (cl : List (Str × Addr)) (fp : List Addr), PGV (X.blk s H scope (compEnvC scope cl C X.env) fp) Wg Tg tg g) (ht : ∀ (s : Shared) (H : Hp) (C : Addr) (cl : List (Str × Addr)) (fp : List Addr), PTsV (X.blk s H scope (compEnvC scope cl C X.env) fp) Tt ifs ft)
    (he : ∀ (s : Shared) (H : Hp) (C : Addr) (cl : List (Str × Addr)) (fp : List Addr), PEV (X.blk s H scope (compEnvC scope cl C X.env) fp) Te [] true elt fe) (hvs : own.map (·.2) = vs := by rfl) (hW : Wg.all (fun i => vs.contains i) = true := by rfl) (ho : O.all (fun i => !(vs ++ (Tg ++ (Tt ++ Te))).contains i) = true := by rfl)
    (hs : ∀ x, foldedSetIterable iter X.env x = pure x := by intro _; rfl) :
    PEV X (T ++ ((vs ++ (Tg ++ (Tt ++ Te))) ++ vs)) [] true (.ListComp elt [⟨tg, iter, ifs, 0⟩] scope pos) (fComp vs fi g ft fe) := by
  subst hvs
  exact pev_lc hc hN hi ok hg ht he hW ho hs
theorem pev_lcDV {scope : Scope} {own : List (Str × Nat)} (vs : List Nat) (i : Nat) (hc : X.calm = true) (hN : X.N.Nodup) (hi : PI X tg iter (tVIk X.K i)) (ok : BlkOk X.N X.env.scope scope own)
    (hg : ∀ (s : Shared) (H : Hp) (C : Addr) (cl : List (Str × Addr)) (fp : List Addr), PGV (X.blk s H scope (compEnvC scope cl C X.env) fp) Wg Tg tg g) (ht : ∀ (s : Shared) (H : Hp) (C : Addr) (cl : List (Str × Addr)) (fp : List Addr), PTsV (X.blk s H scope (compEnvC scope cl C X.env) fp) Tt ifs ft)
    (he : ∀ (s : Shared) (H : Hp) (C : Addr) (cl : List (Str × Addr)) (fp : List Addr), PEV (X.blk s H scope (compEnvC scope cl C X.env) fp) Te [] true elt fe) (hvs : own.map (·.2) = vs := by rfl) (hW : Wg.all (fun i => vs.contains i) = true := by rfl)
    (hs : ∀ x, foldedSetIterable iter X.env x = pure x := by intro _; rfl) :
    PEV X (i :: ([] ++ ((vs ++ (Tg ++ (Tt ++ Te))) ++ vs))) [] true (.ListComp elt [⟨tg, iter, ifs, 0⟩] scope pos) (fDk i (fComp vs (iKy i) g ft fe)) := by
  subst hvs
  exact pev_lcD i hc hN hi ok hg ht he hW hs
end
end Vl

namespace Vl
open PySem PySem.Spec PyProof.Rows L2

/-! ### tuple(reversed(a tuple)) -/
theorem Walks.rt {prog : Program} {w : World} {A : Around} (hh : A.handled = none) (I t : Addr) (hne : t ≠ I) (items : Array Value) (hz : items.size ≤ sizeLine) :
    Walks prog w A I [I, t] [I] items.size (fun i v => items[items.size - 1 - i]? = some v) (fun i h => i ≤ items.size ∧ RT.IsRt h I t ((items.size : Int) - 1 - (i : Int)) ∧ IsTup h t items) where
  sub := fun b hb => by simp at hb; simp [hb]
  frame := fun _ _ _ x hk => ⟨x.1, x.2.1.at fun o e => hk I (by simp) o e, by
    obtain ⟨o, ho, r⟩ := x.2.2
    exact ⟨o, hk t (by simp) o ho, r⟩⟩
  item := fun i s Q E hi x hQ => by
    obtain ⟨x1, x2, x3⟩ := x
    have e : (items.size : Int) - 1 - (i : Int) = ((items.size - 1 - i : Nat) : Int) := by omega
    rw [e] at x2
    have hx : items[items.size - 1 - i]? = some (items[items.size - 1 - i]'(by omega)) := Array.getElem?_eq_getElem (by omega)
    refine RT.next_rt_item x2 x3 hx hz fun h' hit' hs' => ?_
    have e2 : ((items.size - 1 - i : Nat) : Int) - 1 = (items.size : Int) - 1 - ((i + 1 : Nat) : Int) := by omega
    rw [e2] at hit'
    obtain ⟨o, ho, r⟩ := x3
    exact hQ _ h' _ hx ⟨hi, hit', o, (hs'.2 t hne).trans ho, r⟩ fun b o hb eo => hs'.extBut b o (fun h => hb (by simp [h])) eo
  done := fun s Q E x hQ => by
    obtain ⟨x1, x2, x3⟩ := x
    have e : (items.size : Int) - 1 - (items.size : Int) = -1 := by omega
    rw [e] at x2
    exact RT.next_rt_end hh x2 fun h' eb => hQ h' s.toks fun b o hb eo => eb b o (fun h => hb (by simp [h])) eo
  self := fun i s Q E x h => RT.iter_rt x.2.1 h
theorem rt_nolen : typeLookup (.type "reversed") "__len__" = pure none := by rw [typeLookup_type, builtinLookup_eq_fast]; kernel_rfl
theorem rt_hint : typeLookup (.type "reversed") "__length_hint__" = pure (some (.builtin "reversed.__length_hint__")) := by rw [typeLookup_type, builtinLookup_eq_fast]; kernel_rfl
section
variable {prog : Program} {w : World} {A : Around} {E : Value → Shared → Prop} {s : Shared}
theorem rt_entry_hint : entryFor table "reversed.__length_hint__" = some Builtin.«reversed.__length_hint__» := entryFor_of_tree (by kernel_rfl)
theorem rt_slot_hint : Slot "reversed" "__length_hint__" "reversed.__length_hint__" :=
  .of (owner := "reversed") (n := "__length_hint__") rt_hint (by decide +kernel) (by decide +kernel) (by decide +kernel)
    (by first | exact .inl (by decide +kernel) | exact .inr (by decide +kernel)) (by rw [isSubtype_type]; kernel_rfl)
theorem rt_args_hint (a : Value) : argsOk "reversed.__length_hint__" ⟨[a], []⟩ := by
  unfold argsOk
  rw [signature?_of (id := "reversed.__length_hint__") (n := ['_', '_', 't', 'n', 'i', 'h', '_', 'h', 't', 'g', 'n', 'e', 'l', '_', '_']) (o := ['d', 'e', 's', 'r', 'e', 'v', 'e', 'r']) (by kernel_rfl) RT.owner_rt]
  kernel_rfl
theorem rt_lenhint {it t : Addr} {items : Array Value} {Q : Bool → Shared → Prop} (hit : RT.IsRt s.heap it t ((items.size : Int) - 1)) (ht : IsTup s.heap t items) (hz : items.size ≤ sizeLine) (h : ∀ b tk, Q b { s with toks := tk }) :
    wpAny (model prog w) A (Builtin.List.listLengthHint (.ref it)) Q E s := by
  have hT : s.TypeIs (.ref it) "reversed" := hit.typeIs
  unfold Builtin.List.listLengthHint
  refine wpAny_bind (wpAny_specialOf hT rt_nolen ?_)
  show wpAny _ A (specialOf (Value.ref it) (Str.ofString "__length_hint__") >>= _) _ _ _
  refine wpAny_bind (wpAny_specialOf hT rt_hint ?_)
  generalize hid : ("reversed.__length_hint__" : String) = id0
  wp_delta
  rw [show splitId id0 = some ("reversed", "__length_hint__") from by subst hid; decide +kernel]
  subst hid
  refine wpAny_bind (wpAny_isInstance (b := true) hT (by rw [isSubtype_type]; kernel_rfl) ?_)
  rw [if_neg (by decide)]
  try dsimp only
  rw [if_neg (by decide)]
  refine wpAny_bind (wpAny_rule ?_)
  rw [rt_slot_hint.bind]
  refine wpAny_bind (wpAny_pure ?_)
  try dsimp only
  refine wpAny_bind (wpAny_attempt (wpAny_call_entry rt_slot_hint hT rt_entry_hint ?_ (rt_args_hint _)))
  have hn := line63
  obtain ⟨o, ho, hc, hd⟩ := id hit
  unfold Builtin.«reversed.__length_hint__»
  refine wpAny_bind (wpAny_of_eq (a := Value.ref it) rfl ?_)
  try dsimp only
  refine wpAny_bind (wpAny_field ho hd (x := .ref t) rfl ?_)
  show wpAny _ _ (if (Value.ref t == Value.none) = true then _ else _) _ _ s
  rw [if_neg (show ¬ ((Value.ref t == Value.none) = true) from Bool.false_ne_true)]
  try dsimp only
  refine wpAny_bind (len_tuple ht (by omega) ?_)
  refine wpAny_bind (wpAny_of_eq (a := some ((items.size : Nat) : Int)) rfl ?_)
  try dsimp only
  refine wpAny_bind (wpAny_field (s := { s with toks := _ }) ho hd (x := rawInt ((items.size : Int) - 1)) rfl ?_)
  try dsimp only
  show wpAny _ _ (if ((items.size : Nat) : Int) < ((items.size : Int) - 1) + 1 then _ else retInt (((items.size : Int) - 1) + 1)) _ _ _
  rw [if_neg (by omega)]
  refine wpAny_bind (wpAny_mkInt ?_)
  refine wpAny_pure ⟨_, rfl, ?_⟩
  try dsimp only
  have e1 : ((items.size : Int) - 1) + 1 = (items.size : Int) := by omega
  rw [e1]
  have g1 : Builtin.List.listFitsIndex ((items.size : Nat) : Int) = true := fitsIndex_of (by omega) (by omega)
  have g2 : ¬ ((items.size : Nat) : Int) < 0 := by omega
  have g3 : Builtin.List.listTooLong ((items.size : Nat) : Int).toNat = false := by rw [Int.toNat_natCast]; exact notLongL hz
  generalize ((items.size : Nat) : Int) = n at g1 g2 g3 ⊢
  generalize s.toks + 1 + 1 = tk0
  refine wpAny_bind (wpAny_of_eq (a := some n) rfl ?_)
  dsimp only
  rw [if_neg (by rw [g1]; exact Bool.false_ne_true), if_neg g2, if_neg (by rw [g3]; exact Bool.false_ne_true)]
  exact wpAny_pure (h _ _)
theorem rt_collect {it t : Addr} {items : Array Value} {Q : List Value → Shared → Prop} (hh : A.handled = none) (hit : RT.IsRt s.heap it t ((items.size : Int) - 1)) (ht : IsTup s.heap t items) (hne : t ≠ it) (hn : items.size ≤ sizeLine)
    (hQ : ∀ (h' : Heap) (tk : Nat) (acc : Array Value), (∀ b o, b ≠ it → s.heap.get? b = some o → h'.get? b = some o) → ItemsOf (fun i v => items[items.size - 1 - i]? = some v) acc items.size → Q acc.toList { s with heap := h', toks := tk }) : wpAny (model prog w) A (collect (.ref it)) Q E s := by
  have W := (Walks.rt (prog := prog) (w := w) (A := A.in1) hh it t hne items hn).toS
  have hSi : s.heap.objs.size ≠ it := by obtain ⟨o, e, _⟩ := id hit; exact Nat.ne_of_gt (Heap.lt_size e)
  have hSl : s.heap.objs.size ≠ t := by obtain ⟨o, e, _⟩ := id ht; exact Nat.ne_of_gt (Heap.lt_size e)
  have hSf : s.heap.objs.size ∉ [it, t] := by simp [hSi, hSl]
  let ob : Obj := { cls := .type "list", data := .seq ([] : List Value).toArray }
  unfold collect
  refine wpAny_bind (wpAny_runValue (codeAny_builtin F.entry_proto_collect ?_))
  rw [Around.under_plainId F.plain_proto_collect _]
  show wpAny _ A.in1 (newList [] >>= fun l' => again (.builtin "list.__iadd__" ⟨[l', .ref it], []⟩)) _ _ s
  refine wpAny_bind (wpAny_newObj_type (wpAny_pure ⟨plainId_quiet F.plain_list_iadd _, codeAny_builtin F.entry_list_iadd ?_⟩))
  rw [Around.under_plainId F.plain_list_iadd _]
  have hS : (s.heap.push ob).get? s.heap.objs.size = some ob := Heap.get?_push_size _ rfl
  have hit1 : RT.IsRt (s.heap.push ob) it t ((items.size : Int) - 1) := hit.at fun o e => Heap.get?_push_of_some _ e
  have ht1 : IsTup (s.heap.push ob) t items := by obtain ⟨o, e, r⟩ := id ht; exact ⟨o, Heap.get?_push_of_some _ e, r⟩
  have hT : ({ s with heap := s.heap.push ob } : Shared).TypeIs (.ref it) "reversed" := RT.IsRt.typeIs (s := { s with heap := s.heap.push ob }) hit1
  have h1 : Builtin.List.listSameRef (.ref s.heap.objs.size) (.ref it) = false := by simp [Builtin.List.listSameRef, hSi]
  show wpAny _ A.in1 (Builtin.List.listExtendWith (.ref s.heap.objs.size) (.ref it) (.ref s.heap.objs.size)) _ _ { s with heap := s.heap.push ob }
  unfold Builtin.List.listExtendWith
  refine wpAny_bind (wpAny_typeOf hT ?_)
  rw [if_neg (by rw [h1]; decide)]
  refine wpAny_bind (RT.iter_rt (s := { s with heap := s.heap.push ob }) hit1 ?_)
  refine wpAny_bind (wpAny_holding (rt_lenhint (s := { s with heap := s.heap.push ob }) hit1 ht1 hn fun b tk => ?_))
  have e0 : ((items.size : Nat) : Int) - 1 - ((0 : Nat) : Int) = (items.size : Int) - 1 := by omega
  cases b with
  | false =>
    rw [if_neg (by decide)]
    refine wpAny_pure ⟨plainId_quiet F.plain_extend_loop _, codeAny_extend_loopS W hn _ hSf _ items.size 0 _ _ _ rfl (Nat.zero_le _) ⟨Nat.zero_le _, by rw [e0]; exact hit1, ht1⟩ hS (ItemsOf.nil _) fun s' acc' c' hm hS' hacc => ?_⟩
    show wpAny _ A (load s.heap.objs.size >>= _) _ _ s'
    refine wpAny_bind (wpAny_load hS' (wpAny_pure ?_))
    rw [Moved.eq_with hm]
    refine hQ s'.heap s'.toks acc' (fun b o hb e => hm.heap b o (fun hmem => ?_) (Heap.get?_push_of_some _ e)) hacc
    rcases List.mem_cons.mp hmem with e' | hmem
    · exact absurd (Heap.lt_size e) (by rw [e']; exact Nat.lt_irrefl _)
    · exact hb (List.mem_singleton.mp hmem)
  | true =>
    rw [if_pos (by rfl)]
    refine wpAny_bind (wpAny_rule (wpAny_bind ?_))
    show wpAny _ A.in1 (updateSeq s.heap.objs.size (·.push .none) >>= fun _ => updateSeq s.heap.objs.size (·.pop)) _ _ _
    refine wpAny_bind (wpAny_updateSeq hS rfl ?_)
    have hS₂ := Heap.get?_update_self (Obj.mapSeq (·.push Value.none)) hS rfl
    refine wpAny_updateSeq hS₂ rfl ?_
    have hS₃ := Heap.get?_update_self (Obj.mapSeq (·.pop)) hS₂ rfl
    have oth : ∀ b o, b ≠ s.heap.objs.size → (s.heap.push ob).get? b = some o → (((s.heap.push ob).update s.heap.objs.size (Obj.mapSeq (·.push Value.none))).update s.heap.objs.size (Obj.mapSeq (·.pop))).get? b = some o :=
      fun b o hb e => (Heap.get?_update_other _ _ (Ne.symm hb)).trans ((Heap.get?_update_other _ _ (Ne.symm hb)).trans e)
    have hit2 := hit1.at fun o e => oth it o (Ne.symm hSi) e
    obtain ⟨ot, hot, rt⟩ := ht1
    refine wpAny_pure ⟨plainId_quiet F.plain_extend_loop _, codeAny_extend_loopS W hn _ hSf _ items.size 0 _ _ _ rfl (Nat.zero_le _) ⟨Nat.zero_le _, by rw [e0]; exact hit2, ot, oth t ot (Ne.symm hSl) hot, rt⟩ hS₃ (ItemsOf.nil _) fun s' acc' c' hm hS' hacc => ?_⟩
    show wpAny _ A (load s.heap.objs.size >>= _) _ _ s'
    refine wpAny_bind (wpAny_load hS' (wpAny_pure ?_))
    rw [Moved.eq_with hm]
    refine hQ s'.heap s'.toks acc' (fun b o hb e => hm.heap b o (fun hmem => ?_) (oth b o (Nat.ne_of_lt (Heap.lt_size e)) (Heap.get?_push_of_some _ e))) hacc
    rcases List.mem_cons.mp hmem with e' | hmem
    · exact absurd (Heap.lt_size e) (by rw [e']; exact Nat.lt_irrefl _)
    · exact hb (List.mem_singleton.mp hmem)
theorem rt_code {it t : Addr} {items : Array Value} {Q₁ : Value → Shared → Prop} (hh : A.handled = none) (hit : RT.IsRt s.heap it t ((items.size : Int) - 1)) (ht : IsTup s.heap t items) (hne : t ≠ it) (hn : items.size ≤ sizeLine)
    (h : ∀ (h' : Heap) (tk : Nat) (acc : Array Value), (∀ b o, b ≠ it → s.heap.get? b = some o → h'.get? b = some o) → ItemsOf (fun i v => items[items.size - 1 - i]? = some v) acc items.size →
      Q₁ (.ref h'.objs.size) { s with heap := h'.push { cls := .type "tuple", data := .seq acc }, toks := tk }) : codeAny (model prog w) A (.call (.builtin "tuple.__new__") ⟨[.type "tuple", .ref it], []⟩) (wants Q₁ E) s := by
  refine codeAny_of_tree ?_
  show wpAny _ A.in1 (do checkBuiltinCall "tuple.__new__" ⟨[.type "tuple", .ref it], []⟩; again (.builtin "tuple.__new__" ⟨[.type "tuple", .ref it], []⟩)) _ _ s
  refine wpAny_bind (wpAny_of_eq (F.newCall_tuple_1 _) (wpAny_pure ⟨plainId_quiet F.plain_tuple_new _, codeAny_builtin F.entry_tuple_new ?_⟩))
  rw [Around.under_plainId F.plain_tuple_new _]
  have hsub := PySem.sub_tuple_self
  have hinit := PySem.init_tuple_lookup
  have hmh := PySem.madeHere_tuple
  have hTI : s.TypeIs (.ref it) "reversed" := hit.typeIs
  have hh1 : A.in1.handled = none := hh
  wp_walk using wpAny_typeOf hTI, rt_collect (A := A.in1) hh1 hit ht hne hn
  intro h' tk acc hk hacc
  show wpAny _ _ (Builtin.Tuple.tupleExact acc.toList.toArray >>= fun v => ret v) _ _ _
  unfold Builtin.Tuple.tupleExact
  have e : acc.toList.toArray = acc := by simp
  refine wpAny_bind (wpAny_newObj_type (wpAny_pure ?_) (by rw [e]; show acc.size ≤ sizeLine; rw [hacc.1]; exact hn))
  rw [e]
  exact h h' tk acc hk hacc
theorem rt_tuple {it t : Addr} {items : Array Value} {Q : Value → Shared → Prop} (hh : A.handled = none) (hit : RT.IsRt s.heap it t ((items.size : Int) - 1)) (ht : IsTup s.heap t items) (hne : t ≠ it) (hn : items.size ≤ sizeLine)
    (hQ : ∀ (h' : Heap) (tk : Nat) (acc : Array Value), (∀ b o, b ≠ it → s.heap.get? b = some o → h'.get? b = some o) → ItemsOf (fun i v => items[items.size - 1 - i]? = some v) acc items.size →
      Q (.ref h'.objs.size) { s with heap := h'.push { cls := .type "tuple", data := .seq acc }, toks := tk }) : wpAny (model prog w) A (call (.type "tuple") [.ref it]) Q E s := by
  refine callType_codes (Q₁ := fun obj s₁ => s₁.TypeIs obj "tuple" ∧ Q obj s₁) F.called_tuple (F.typeCall_tuple_1 _) F.entry_object_init
    (rt_code (A := A.in1) hh hit ht hne hn fun h' tk acc hk hacc => ⟨⟨_, Heap.get?_push_size _ rfl, rfl⟩, hQ h' tk acc hk hacc⟩) fun obj s₁ h₁ => ?_
  exact ⟨h₁.1, F.args_object_init_2 obj _, object_init_meets F.called_tuple.init.lookup F.called_tuple.made (by decide) prog w A.in1 _ s₁ ⟨h₁.1, rfl, h₁.2⟩⟩
end
/-- tuple(reversed(x)), x a list or a tuple -/
def tTupRvA (K : PySem.W.Frag) (te : TE) : TE := fun σ H Q => te σ H fun v H1 => ∃ (a : Addr) (xs : List V), v = .ref a ∧ (SqL K H1 a xs ∨ SqT K H1 a xs) ∧ ∀ q, H1 q = none → Q (.ref q) (upd H1 q (.tup xs.reverse))
section
variable {X : Cx} {T O : List Nat} {x : Bool} {f : M D} {e : Expr} {p p2 pos pos2 : Pos}
theorem pe_tupRvA {te : TE} (hc : X.calm = true) (hg : Gl X "tuple") (hm : X.mg "tuple" = none) (hg2 : Gl X "reversed") (hm2 : X.mg "reversed" = none) (he : PE X e te)
    (hs : starEach [e] X.env = (false, eval e X.env) :: starEach [] X.env := by rfl)
    (hs2 : starEach [.Call (.Name "reversed" p2) [e] [] pos2] X.env = (false, eval (.Call (.Name "reversed" p2) [e] [] pos2) X.env) :: starEach [] X.env := by rfl) :
    PE X (.Call (.Name "tuple" p) [.Call (.Name "reversed" p2) [e] [] pos2] [] pos) (tTupRvA X.K te) := by
  refine ⟨fun pins s σ H Q I h => ?_⟩
  refine Call_ (ld_blt I hg hm boot_tuple (PyProof.Rows.callWith_type1 (args_cons (Call_ (ld_blt I hg2 hm2 PyProof.Rows.boot_reversed (PyProof.Rows.callWith_type1 (args_cons (thn (he.run pins s σ H _ I h) fun u s1 ⟨v, H1, I1, r1, q1⟩ => args_nil ?_) hs) hs rfl))) hs2) hs2 rfl))
  obtain ⟨a, xs, ev, hq, q⟩ := q1
  subst ev
  obtain rfl : u = Value.ref a := r1
  obtain ⟨f0, f1, f2, f3, f4, f5⟩ := I1.fpOk (H' := H1) (b := s1.heap.objs.size) (Nat.le_refl _) (I1.hok.fresh (Nat.le_refl _))
  rcases hq with hq | hq
  · obtain ⟨its, rv, p', hz⟩ := I1.list hq
    refine call_reversed_list p'.isList (args_nil ?_)
    have I2 : Inv X pins σ H1 { s1 with heap := s1.heap.push (revObj a ((its.toArray.size : Int) - 1)) } := I1.kept (t' := s1.toks) fun b o e => Heap.get?_push_of_some _ e
    have hl := p'.isList
    have hne : a ≠ s1.heap.objs.size := by obtain ⟨o, ho, _⟩ := id hl; exact Nat.ne_of_lt (Heap.lt_size ho)
    refine RT.call_tuple_rev (s := { s1 with heap := s1.heap.push (revObj a ((its.toArray.size : Int) - 1)) }) (I1.ok.hd hc) ⟨_, Heap.get?_push_size _ rfl, rfl, rfl⟩ (hl.push _) hne (by rw [List.size_toArray, ← rv.length]; exact hz) fun h' tk acc hk hi => ?_
    have I3 : Inv X pins σ H1 { s1 with heap := h', toks := tk } := I2.turned (t' := tk) (fun b o hb e => hk b o hb e) f0 f1 f3 f4 f5
    exact ⟨.ref h'.objs.size, upd H1 h'.objs.size (.tup xs.reverse), I3.laid (t' := tk) (fun c o e => Heap.get?_push_of_some _ e) (Nat.le_refl _) (show ObjOk X.prog X.w _ _ _ (.tup xs.reverse) from ⟨by rw [List.length_reverse]; exact hz, acc.toList, RT.vals_rev rv hi, by rw [Array.toArray_toList]; exact IsTup.new _ _⟩), rfl, q _ (I3.hok.fresh (Nat.le_refl _))⟩
  · obtain ⟨its, rv, p', hz⟩ := I1.tuple hq
    have hn := line63
    have hl := rv.length
    have hne : a ≠ s1.heap.objs.size := by obtain ⟨o, ho, _⟩ := id p'; exact Nat.ne_of_lt (Heap.lt_size ho)
    refine RT.call_reversed_tup p' (fun A E Q k => len_tuple p' (by simp only [List.size_toArray] <;> omega) k) (args_nil ?_)
    have I2 : Inv X pins σ H1 { s1 with heap := s1.heap.push (RT.rtObj a ((its.toArray.size : Int) - 1)), toks := s1.toks + 1 + 1 } := I1.kept (t' := s1.toks + 1 + 1) fun b o e => Heap.get?_push_of_some _ e
    have ht2 : IsTup (s1.heap.push (RT.rtObj a ((its.toArray.size : Int) - 1))) a its.toArray := by obtain ⟨o, ho, r⟩ := id p'; exact ⟨o, Heap.get?_push_of_some _ ho, r⟩
    refine rt_tuple (s := { s1 with heap := s1.heap.push (RT.rtObj a ((its.toArray.size : Int) - 1)), toks := s1.toks + 1 + 1 }) (I1.ok.hd hc) ⟨_, Heap.get?_push_size _ rfl, rfl, rfl⟩ ht2 hne (by rw [List.size_toArray, ← hl]; exact hz) fun h' tk acc hk hi => ?_
    have I3 : Inv X pins σ H1 { s1 with heap := h', toks := tk } := I2.turned (t' := tk) (fun b o hb e => hk b o hb e) f0 f1 f3 f4 f5
    exact ⟨.ref h'.objs.size, upd H1 h'.objs.size (.tup xs.reverse), I3.laid (t' := tk) (fun c o e => Heap.get?_push_of_some _ e) (Nat.le_refl _) (show ObjOk X.prog X.w _ _ _ (.tup xs.reverse) from ⟨by rw [List.length_reverse]; exact hz, acc.toList, RT.vals_rev rv hi, by rw [Array.toArray_toList]; exact IsTup.new _ _⟩), rfl, q _ (I3.hok.fresh (Nat.le_refl _))⟩
theorem Rs.rev0 {K : PySem.W.Frag} {Z : Addr → Prop} {H : Hp} : ∀ {ds : List D} {vs : List V}, Rs K Z H ds vs [] → Rs K Z H ds.reverse vs.reverse []
  | [], vs, r => by cases r; exact .nil
  | d :: ds, vs, r => by
    obtain ⟨v, ws, F1, F2, rfl, e, r1, r2⟩ := r.uncons
    obtain ⟨e1, e2⟩ := app_eq_nil e.symm
    subst e1 e2
    rw [List.reverse_cons, List.reverse_cons]
    exact Rs.app (F := []) (G := []) r2.rev0 (Rs.one r1)
def fTupRev (f : M D) : M D := fun ρ => (f ρ).bind fun p => (itemsOf p.1).bind fun l => some (.tup l.reverse, p.2)
theorem itemsOf_any {d : D} {l : List D} {K : PySem.W.Frag} {Z : Addr → Prop} {H : Hp} {v : V} {F : List Addr} (h : itemsOf d = some l) (r : R K Z H d v F) : ∃ a vs, v = .ref a ∧ (SqL K H a vs ∨ SqT K H a vs) ∧ Rs K Z H l vs [] := by
  cases d <;> simp only [itemsOf] at h <;> try (cases h)
  · split at h
    · rename_i hn
      cases h
      obtain ⟨a, vs, e, hq, rs⟩ := r.tup_inv
      exact ⟨a, vs, e, .inr hq, rs.nil_of hn⟩
    · cases h
  · split at h
    · rename_i hn
      cases h
      obtain ⟨a, vs, G, e, hq, rs, _⟩ := r.lst_at
      exact ⟨a, vs, e, .inl hq, rs.nil_of hn⟩
    · cases h
  · split at h
    · cases h
      obtain ⟨a, vs, e, _, hq, rs⟩ := r.scr_at
      exact ⟨a, vs, e, .inl hq, rs⟩
    · cases h
theorem pev_tupRev (hc : X.calm = true) (hg : Gl X "tuple") (hm : X.mg "tuple" = none) (hg2 : Gl X "reversed") (hm2 : X.mg "reversed" = none) (he : PEV X T O x e f)
    (hs : starEach [e] X.env = (false, eval e X.env) :: starEach [] X.env := by rfl)
    (hs2 : starEach [.Call (.Name "reversed" p2) [e] [] pos2] X.env = (false, eval (.Call (.Name "reversed" p2) [e] [] pos2) X.env) :: starEach [] X.env := by rfl) :
    PEV X T [] true (.Call (.Name "tuple" p) [.Call (.Name "reversed" p2) [e] [] pos2] [] pos) (fTupRev f) := by
  refine PE.imp (pe_tupRvA hc hg hm hg2 hm2 he hs hs2) fun σ H Q h => ?_
  obtain ⟨Z, ρ, Fs, d, ρ', rel, hf, q⟩ := h
  unfold fTupRev at hf
  obtain ⟨⟨d1, ρ1⟩, h1, hf⟩ := Option.bind_eq_some_iff.mp hf
  obtain ⟨l, h2, hf⟩ := Option.bind_eq_some_iff.mp hf
  cases hf
  refine ⟨Z, ρ, Fs, d1, _, rel, h1, fun v H' Z' Fs' F rel' f' w c => ?_⟩
  obtain ⟨a, vs, e, hq, rs⟩ := itemsOf_any h2 w.r
  refine ⟨a, vs, e, hq, fun p hp => ?_⟩
  refine new_tup hp rs.rev0 fun v H2 F k r nd nw => ?_
  have fz := f'.trans (Frm.pureT [] k)
  rw [List.append_nil] at fz
  exact q v H2 Z' Fs' F (rel'.keep0 k) fz (Val.new rel' r nd nw) (Cf.new f'.keep nw)
end
end Vl

namespace Vl
open PySem PySem.Spec PyProof.Rows L2

/-! ### walks that nothing disturbs, comprehensions of two clauses -/
def StayR (K : PySem.W.Frag) (Z' : Addr → Prop) (H' : Hp) (G : Hp → Prop) (Y : Nat → Hp → V → Hp → Prop) (items : List D) : Prop :=
  ∀ (B : Addr → Prop) (Z2 : Addr → Prop) (H2 : Hp), Keep B H' H2 → (∀ a, Z' a → ¬ B a) → (∀ a, Z' a → Z2 a) → G H2 ∧ ∀ i x h d, Y i H2 x h → items[i]? = some d → Keep M0 H2 h ∧ R K Z2 h d x []
def tVIr (K : PySem.W.Frag) (T : List Nat) (f : M (List D)) : TI := fun σ H Rk => ∃ Z ρ Fs items ρ', Rel K Z ρ σ H Fs ∧ f ρ = some (items, ρ') ∧
  ∀ J H' Z' Fs' G Y, Rel K Z' ρ' σ H' Fs' → Frm T Z ρ Fs H Z' ρ' Fs' H' → Walk J items.length G Y → StayR K Z' H' G Y items → Rk J H'
abbrev PIVr (X : Cx) (T : List Nat) (tg e : Expr) (f : M (List D)) : Prop := PI X tg e (tVIr X.K T f)
section
variable {X : Cx} {T T1 O W Wg Tg Tt Te Wg1 Tg1 Tt1 : List Nat} {x : Bool} {a b e tg iter elt tg1 iter1 : Expr} {ifs ifs1 : List Expr} {f fe : M D} {fi fi1 fr : M (List D)} {ft ft1 : M Bool} {p pos : Pos} {g g1 : D → Env → Option Env}
theorem pivr_range1 (hg : Gl X "range") (hm : X.mg "range" = none) (ha : PAV X T O x [a] fr) (hs : starEach [a] X.env = [(false, eval a X.env)] := by rfl) : PIVr X T tg (.Call (.Name "range" p) [a] [] pos) (iRg1 fr) := by
  refine PI.imp (pi_range1 hg hm ha hs) fun σ H Rk h => ?_
  obtain ⟨Z, ρ, Fs, items, ρ', rel, hf, q⟩ := h
  unfold iRg1 at hf
  obtain ⟨⟨ds, ρ1⟩, h1, hf⟩ := Option.bind_eq_some_iff.mp hf
  split at hf
  · rename_i j e
    split at hf
    · rename_i hok
      cases hf
      obtain ⟨q1, q2⟩ := okR_of hok
      refine ⟨Z, ρ, Fs, ds, _, rel, h1, fun vs H' Z' Fs' F rel' f' w c => ?_⟩
      have e : ds = [.int j] := e
      subst e
      refine ⟨j, w.r.ints1, by omega, by omega, ?_⟩
      have wk := walk_range (lo := 0) (n := j.toNat)
      have st := stay_range (K := X.K) (Z := Z') (H := H') (lo := 0) (n := j.toNat)
      exact q _ H' Z' Fs' _ _ rel' f' (by rw [rgItems_length]; exact wk) fun B Z2 H2 k hz zz => st B Z2 H2 k (fun _ h => (by cases h)) hz zz
    · cases hf
  · cases hf
theorem pivr_range2 (hg : Gl X "range") (hm : X.mg "range" = none) (ha : PAV X T O x [a, b] fr) (hs : starEach [a, b] X.env = [(false, eval a X.env), (false, eval b X.env)] := by rfl) (hs2 : starEach [b] X.env = [(false, eval b X.env)] := by rfl) :
    PIVr X T tg (.Call (.Name "range" p) [a, b] [] pos) (iRg2 fr) := by
  refine PI.imp (pi_range2 hg hm ha hs hs2) fun σ H Rk h => ?_
  obtain ⟨Z, ρ, Fs, items, ρ', rel, hf, q⟩ := h
  unfold iRg2 at hf
  obtain ⟨⟨ds, ρ1⟩, h1, hf⟩ := Option.bind_eq_some_iff.mp hf
  split at hf
  · rename_i i j e
    split at hf
    · rename_i hok
      cases hf
      rw [Bool.and_eq_true] at hok
      obtain ⟨q1, q2⟩ := okR_of hok.1
      obtain ⟨q3, q4⟩ := okR_of hok.2
      refine ⟨Z, ρ, Fs, ds, _, rel, h1, fun vs H' Z' Fs' F rel' f' w c => ?_⟩
      have e : ds = [.int i, .int j] := e
      subst e
      have wk := walk_range (lo := i) (n := (j - i).toNat)
      have st := stay_range (K := X.K) (Z := Z') (H := H') (lo := i) (n := (j - i).toNat)
      have fin := q _ H' Z' Fs' _ _ rel' f' (by rw [rgItems_length]; exact wk) fun B Z2 H2 k hz zz => st B Z2 H2 k (fun _ h => (by cases h)) hz zz
      exact ⟨i, j, w.r.ints2, ⟨by omega, by omega, by omega, by omega⟩, fin⟩
    · cases hf
  · cases hf
def iSeqR (f : M D) : M (List D) := fun ρ => (f ρ).bind fun p => if p.1.noOwn = true then (itemsOf p.1).bind fun l => some (l, p.2) else none
theorem pivr_seq (h : PEV X T O x e f) : PIVr X T tg e (iSeqR f) := by
  refine PI.imp (pi_sq h) fun σ H Rk h => ?_
  obtain ⟨Z, ρ, Fs, items, ρ', rel, hf, q⟩ := h
  unfold iSeqR at hf
  obtain ⟨⟨d, ρ1⟩, h1, hf⟩ := Option.bind_eq_some_iff.mp hf
  split at hf
  · rename_i hno
    obtain ⟨l, h2, hf⟩ := Option.bind_eq_some_iff.mp hf
    cases hf
    refine ⟨Z, ρ, Fs, d, _, rel, h1, fun v H' Z' Fs' F rel' f' w c => ?_⟩
    have w0 := w.r
    have e0 := w0.no hno
    subst e0
    cases d <;> simp only [itemsOf] at h2 <;> try (cases h2)
    · split at h2
      · rename_i hn
        cases h2
        obtain ⟨a, vs, e, hq, hl, st⟩ := w0.tup_keep (Z' := Z') (H' := H') hn
        refine ⟨a, e, .inr ⟨vs, hq, ?_⟩⟩
        have wk := walk_tup (K := X.K) (a := a) (xs := vs)
        rw [← hl] at wk
        exact q _ H' Z' Fs' _ _ rel' f' wk fun B Z2 H2 k hz zz => (stay_tup (F := []) st) B Z2 H2 k (fun _ h => (by cases h)) hz zz
      · cases h2
    · split at h2
      · rename_i hn
        cases h2
        obtain ⟨a, vs, e, hq, hl, st⟩ := w0.lst_keep (Z' := Z') (H' := H') hn
        refine ⟨a, e, .inl ⟨vs, hq, ?_⟩⟩
        have wk := walk_list (K := X.K) (a := a) (xs := vs)
        rw [← hl] at wk
        exact q _ H' Z' Fs' _ _ rel' f' wk fun B Z2 H2 k hz zz => (stay_list st) B Z2 H2 k (fun _ h => (by cases h)) hz zz
      · cases h2
    · split at h2
      · cases h2
        obtain ⟨a, vs, e, hq, hl, st⟩ := w0.scr_keep (Z' := Z') (H' := H')
        refine ⟨a, e, .inl ⟨vs, hq, ?_⟩⟩
        have wk := walk_list (K := X.K) (a := a) (xs := vs)
        rw [← hl] at wk
        exact q _ H' Z' Fs' _ _ rel' f' wk fun B Z2 H2 k hz zz => (stay_list st) B Z2 H2 k (fun _ h => (by cases h)) hz zz
      · cases h2
  · cases hf
def compL2 (vs vs1 : List Nat) (g : D → Env → Option Env) (ft : M Bool) (fi1 : M (List D)) (g1 : D → Env → Option Env) (ft1 : M Bool) (fe : M D) : List D → Env → List D → Option (List D × Env)
  | [], ρ, acc => some (acc, ρ)
  | d :: ds, ρ, acc => (g d (wipeE ρ vs)).bind fun ρ1 => (ft ρ1).bind fun p => if p.1 = true then (fi1 p.2).bind fun q => (compL vs1 g1 ft1 fe q.1 q.2 acc).bind fun r => compL2 vs vs1 g ft fi1 g1 ft1 fe ds (wipeE r.2 vs1) r.1
    else compL2 vs vs1 g ft fi1 g1 ft1 fe ds p.2 acc
def fComp2 (vs vs1 : List Nat) (fi : M (List D)) (g : D → Env → Option Env) (ft : M Bool) (fi1 : M (List D)) (g1 : D → Env → Option Env) (ft1 : M Bool) (fe : M D) : M D := fun ρ => (fi ρ).bind fun p => if ownOk p.2 vs = true then (compL2 vs vs1 g ft fi1 g1 ft1 fe p.1 p.2 []).bind fun q => some (.lst true q.1, backE p.2 q.2 vs) else none
theorem BK.nzD {K : PySem.W.Frag} {Tl : List Nat} {Z1 Z : Addr → Prop} {ρ1 ρ : Env} {Fs1 Fs : Ft} {H1 H : Hp} {DD : Addr} {acc : List D} {τ : L2.St} (b : BK K Tl Z1 ρ1 Fs1 H1 DD acc Z ρ Fs H τ) : ¬ Z DD := by
  obtain ⟨F, w, _⟩ := b.val
  have h2 := (w.exc rfl).2
  have r := w.r
  cases r with
  | own _ _ => exact h2 DD List.mem_cons_self
def Kp (Z4 : Addr → Prop) (H4 : Hp) (Z : Addr → Prop) (H : Hp) : Prop := ∃ B : Addr → Prop, Keep B H4 H ∧ (∀ a, Z4 a → ¬ B a) ∧ ∀ a, Z4 a → Z a
theorem Kp.step {K : PySem.W.Frag} {T' : List Nat} {Z4 Za Zb : Addr → Prop} {ρa ρb : Env} {Fsa Fsb : Ft} {H4 Ha Hb : Hp} {τ : L2.St} (k : Kp Z4 H4 Za Ha) (rel : Rel K Za ρa τ Ha Fsa) (f : Frm T' Za ρa Fsa Ha Zb ρb Fsb Hb) : Kp Z4 H4 Zb Hb := by
  obtain ⟨B, k1, k2, k3⟩ := k
  exact ⟨fun a => B a ∨ ∃ j ∈ T', a ∈ Fsa j, k1.trans f.keep (fun _ h => .inl h) fun a h => .inl (.inr h), fun a z h => h.elim (k2 a z) fun ⟨j, _, hj⟩ => rel.nz j a hj (k3 a z), fun a z => f.zz a (k3 a z)⟩
theorem Kp.wr {Z4 Z : Addr → Prop} {H4 H : Hp} {DD : Addr} {u o : HO} (k : Kp Z4 H4 Z H) (hD : H DD = some u) (hu : Mut (some u)) (hz : ¬ Z DD) : Kp Z4 H4 Z (upd H DD o) := by
  obtain ⟨B, k1, k2, k3⟩ := k
  exact ⟨fun a => B a ∨ a = DD, k1.trans (Keep.wr hD hu) (fun _ h => .inl h) fun a h => .inl (.inr h), fun a z h => h.elim (k2 a z) fun e => hz (by rw [← e]; exact k3 a z), k3⟩
/-- an inner walk of a comprehension, with the outer bookkeeping kept -/
theorem tv_inner {K : PySem.W.Frag} {Tl : List Nat} {Z1 : Addr → Prop} {ρ1 : Env} {Fs1 : Ft} {H1 : Hp} {DD : Addr} (hDD : H1 DD = none) {vs1 : List Nat} {items1 : List D} {J1 : It} {G1 : Hp → Prop} {Y1 : Nat → Hp → V → Hp → Prop} {σ2 : L2.St} {H4 : Hp} {Z4 : Addr → Prop} {ρ4 : Env} {Fs4 : Ft} {acc racc : List D} {ρr : Env}
    (hW1 : Wg1.all (fun i => vs1.contains i) = true) (inT : ∀ j, j ∈ vs1 ∨ j ∈ Tg1 ∨ j ∈ Tt1 ∨ j ∈ Te → j ∈ Tl) (b : BK K Tl Z1 ρ1 Fs1 H1 DD acc Z4 ρ4 Fs4 H4 σ2) (wk : Walk J1 items1.length G1 Y1) (stay : StayR K Z4 H4 G1 Y1 items1)
    (hc : compL vs1 g1 ft1 fe items1 ρ4 acc = some (racc, ρr)) {Nx : Hp → Prop} (fin : ∀ Z5 Fs5 H5, BK K Tl Z1 ρ1 Fs1 H1 DD racc Z5 (wipeE ρr vs1) Fs5 H5 (wipe σ2 vs1) → Nx H5) :
    ∃ W1 : Nat → Nat → Hp → Prop, (∃ m, W1 0 m H4) ∧ ∀ j k H, W1 j k H →
      (J1.stop j H ∧ Nx H) ∨ (J1.go j H ∧ ∃ Nx1 : Hp → Prop, (∀ H', Nx1 H' → ∃ k', k' < k ∧ W1 (j + 1) k' H') ∧ ∀ x H', J1.yld j H x H' → tVG K Wg1 Tg1 g1 x (wipe σ2 vs1) H' fun σ3 H5 => wipe σ3 vs1 = wipe σ2 vs1 ∧ tVT K Tt1 ft1 σ3 H5 fun b H6 =>
        if b = true then tV K Te [] true fe σ3 H6 fun y H7 => ∃ acc, H7 DD = some (.lst acc) ∧ acc.length < sizeLine ∧ Nx1 (upd H7 DD (.lst (acc ++ [y]))) else Nx1 H6) := by
  have inW : ∀ j ∈ Wg1, j ∈ vs1 := fun j hj => by simpa using List.all_eq_true.mp hW1 j hj
  let Pv : Nat → Hp → Prop := fun j Hj => ∃ Zj ρj Fsj acc', BK K Tl Z1 ρ1 Fs1 H1 DD acc' Zj (wipeE ρj vs1) Fsj Hj (wipe σ2 vs1) ∧ Kp Z4 H4 Zj Hj ∧ compL vs1 g1 ft1 fe (items1.drop j) ρj acc' = some (racc, ρr)
  refine ⟨fun j m H => m = items1.length - j ∧ j ≤ items1.length ∧ Pv j H, ⟨items1.length, by simp, Nat.zero_le _, Z4, ρ4, dropF Fs4 vs1, acc, b.wipe vs1 (wipe_length _ _) (fun i hi => wipe_out' hi) fun j hj => inT j (.inl hj), ⟨fun _ => False, Keep.refl _ _, fun _ _ h => h, fun _ h => h⟩, by rw [List.drop_zero]; exact hc⟩, ?_⟩
  rintro j m H ⟨rfl, hj, Zj, ρj, Fsj, acc', bj, ⟨B, kB, hB, zB⟩, hcj⟩
  obtain ⟨hG, hS⟩ := stay B Zj H kB hB zB
  by_cases hlt : j < items1.length
  · refine .inr ⟨wk.goes j H hlt hG, Pv (j + 1), fun H' p' => ⟨items1.length - (j + 1), by omega, rfl, hlt, p'⟩, fun x H' y => ?_⟩
    have hd : items1[j]? = some items1[j] := List.getElem?_eq_getElem hlt
    obtain ⟨k, rv⟩ := hS j x H' _ (wk.yields j H x H' hlt hG y) hd
    rw [List.drop_eq_getElem_cons hlt] at hcj
    obtain ⟨ρg, hg1, hcj⟩ := Option.bind_eq_some_iff.mp hcj
    obtain ⟨⟨bt, ρt⟩, ht1, hcj⟩ := Option.bind_eq_some_iff.mp hcj
    have b1 := bj.keep0 k
    have kp1 : Kp Z4 H4 Zj H' := ⟨B, kB.trans k (fun _ h => h) fun _ h => h.elim, hB, zB⟩
    refine ⟨Zj, wipeE ρj vs1, Fsj, items1[j], ρg, b1.rel, rv, hg1, fun σ3 H5 Z5 Fs5 fn5 => ⟨?_, ?_⟩⟩
    · refine wipe_eq (by rw [fn5.sl, wipe_length]) fun i hi => ?_
      rw [fn5.sg i fun z => hi (inW i z), wipe_out' hi]
    · have b2 := b1.step fn5.rel fn5.frm fun i hi => inT i (.inr (.inl hi))
      have kp2 := kp1.step b1.rel fn5.frm
      have outs2 : ∀ i, i ∉ vs1 → (wipe σ2 vs1)[i]? = σ3[i]? := fun i hi => (fn5.sg i fun z => hi (inW i z)).symm
      refine ⟨Z5, ρg, Fs5, bt, ρt, fn5.rel, ht1, fun H6 Z6 Fs6 rel6 f6 => ?_⟩
      have b3 := b2.step rel6 f6 fun i hi => inT i (.inr (.inr (.inl hi)))
      have kp3 := kp2.step fn5.rel f6
      cases bt with
      | false =>
        refine iteF ?_
        rw [if_neg Bool.false_ne_true] at hcj
        exact ⟨Z6, ρt, _, acc', b3.wipe vs1 (by rw [fn5.sl]) outs2 fun i hi => inT i (.inl hi), kp3, hcj⟩
      | true =>
        refine iteT ?_
        rw [if_pos rfl] at hcj
        obtain ⟨⟨de, ρe⟩, he1, hcj⟩ := Option.bind_eq_some_iff.mp hcj
        split at hcj
        · rename_i hz
          refine ⟨Z6, ρt, Fs6, de, ρe, rel6, he1, fun v7 H7 Z7 Fs7 F7 rel7 f7 w7 c7 => ?_⟩
          obtain ⟨vacc, hv1, hv2, b4⟩ := b3.app rel7 f7 (fun i hi => inT i (.inr (.inr (.inr hi)))) w7 c7 hDD
          have kp4 := (kp3.step rel6 f7).wr (o := .lst (vacc ++ [v7])) hv1 trivial b4.nzD
          exact ⟨vacc, hv1, by rw [hv2]; exact sz_lt hz, Z7, ρe, _, _, b4.wipe vs1 (by rw [fn5.sl]) outs2 fun i hi => inT i (.inl hi), kp4, hcj⟩
        · cases hcj
  · have e : j = items1.length := by omega
    subst e
    rw [List.drop_length] at hcj
    cases hcj
    exact .inl ⟨wk.stops H hG, fin Zj Fsj H bj⟩
theorem tv_comp2 (vs vs1 : List Nat) (hv1 : vs1.all (fun i => vs.contains i) = true) (hW : Wg.all (fun i => vs.contains i) = true) (hW1 : Wg1.all (fun i => vs1.contains i) = true) (ho : O.all (fun i => !(vs ++ (Tg ++ (Tt ++ (T1 ++ (Tg1 ++ (Tt1 ++ Te)))))).contains i) = true) {σ : L2.St} {H : Hp} {Q : VK}
    (h : tV X.K (T ++ ((vs ++ (Tg ++ (Tt ++ (T1 ++ (Tg1 ++ (Tt1 ++ Te)))))) ++ vs)) [] true (fComp2 vs vs1 fi g ft fi1 g1 ft1 fe) σ H Q) :
    tLc2 (tVI X.K T O fi) (tVG X.K Wg Tg g) (tVT X.K Tt ft) (tVIr X.K T1 fi1) (tVG X.K Wg1 Tg1 g1) (tVT X.K Tt1 ft1) (tV X.K Te [] true fe) vs vs1 σ H Q := by
  obtain ⟨Z, ρ, Fs, d, ρ', rel, hf, q⟩ := h
  unfold fComp2 at hf
  obtain ⟨⟨items, ρ1⟩, h1, hf⟩ := Option.bind_eq_some_iff.mp hf
  split at hf
  · rename_i hok
    obtain ⟨⟨res, ρ2⟩, h2, hf⟩ := Option.bind_eq_some_iff.mp hf
    cases hf
    refine ⟨Z, ρ, Fs, items, ρ1, rel, h1, fun J H1 Z1 Fs1 A G Y rel1 f1 wk hA stay DD hDD => ?_⟩
    have inTl : ∀ j, j ∈ vs ∨ j ∈ Tg ∨ j ∈ Tt ∨ j ∈ T1 ∨ j ∈ Tg1 ∨ j ∈ Tt1 ∨ j ∈ Te → j ∈ vs ++ (Tg ++ (Tt ++ (T1 ++ (Tg1 ++ (Tt1 ++ Te))))) := fun j h => by
      simp only [List.mem_append]
      exact h
    generalize hTl : vs ++ (Tg ++ (Tt ++ (T1 ++ (Tg1 ++ (Tt1 ++ Te))))) = Tl at q ho inTl
    have far : ∀ a ∈ A, ¬ ∃ j ∈ Tl, a ∈ Fs1 j := fun a ha ⟨j, hj, hf⟩ => by
      have z := List.all_eq_true.mp ho j (hA j a ha hf)
      simp only [Bool.not_eq_true', List.contains_eq_mem, decide_eq_false_iff_not] at z
      exact z hj
    have znot : ∀ a, Z1 a → ¬ ∃ j ∈ Tl, a ∈ Fs1 j := fun a z ⟨j, _, ha⟩ => rel1.nz j a ha z
    have k0 : Keep M0 H1 (upd H1 DD (.lst [])) := Keep.new hDD
    have inW : ∀ j ∈ Wg, j ∈ vs := fun j hj => by simpa using List.all_eq_true.mp hW j hj
    have inV : ∀ j ∈ vs1, j ∈ vs := fun j hj => by simpa using List.all_eq_true.mp hv1 j hj
    have b0 : BK X.K Tl Z1 ρ1 Fs1 H1 DD [] Z1 (wipeE ρ1 vs) (dropF Fs1 vs) (upd H1 DD (.lst [])) (wipe σ vs) := by
      have b : BK X.K Tl Z1 ρ1 Fs1 H1 DD [] Z1 ρ1 Fs1 (upd H1 DD (.lst [])) σ := by
        refine ⟨rel1.keep0 k0, Frm.pureT _ k0, [DD], ⟨.own upd_same .nil, fun j a h1 h2 => ?_, fun _ => ⟨by simp, fun a ha z => ?_⟩⟩, fun _ a ha => .inr ?_⟩
        · have e : a = DD := by simpa using h1
          exact absurd hDD (by rw [← e]; exact rel1.ft j a h2)
        · have e : a = DD := by simpa using ha
          exact rel1.zt a z (by rw [e]; exact hDD)
        · have e : a = DD := by simpa using ha
          rw [e]; exact hDD
      exact b.wipe vs (wipe_length _ _) (fun i hi => wipe_out' hi) fun j hj => inTl j (.inl hj)
    let Pv : Nat → Hp → Prop := fun i Hi => ∃ Zi ρi Fsi acc, BK X.K Tl Z1 ρ1 Fs1 H1 DD acc Zi (wipeE ρi vs) Fsi Hi (wipe σ vs) ∧ ρi.length = ρ1.length ∧ compL2 vs vs1 g ft fi1 g1 ft1 fe (items.drop i) ρi acc = some (res, ρ2)
    refine ⟨fun i m H => m = items.length - i ∧ i ≤ items.length ∧ Pv i H, ⟨items.length, by simp, Nat.zero_le _, Z1, ρ1, _, [], b0, rfl, by rw [List.drop_zero]; exact h2⟩, ?_⟩
    rintro i m Hi ⟨rfl, hi, Zi, ρi, Fsi, acc, b, hl, hc⟩
    obtain ⟨hG, hS⟩ := stay _ Zi Hi b.frm.keep far znot b.frm.zz
    by_cases hlt : i < items.length
    · refine .inr ⟨wk.goes i Hi hlt hG, Pv (i + 1), fun H' p' => ⟨items.length - (i + 1), by omega, rfl, hlt, p'⟩, fun v H' y => ?_⟩
      have hd : items[i]? = some items[i] := List.getElem?_eq_getElem hlt
      obtain ⟨k, rv⟩ := hS i v H' _ (wk.yields i Hi v H' hlt hG y) hd
      rw [List.drop_eq_getElem_cons hlt] at hc
      obtain ⟨ρg, hg1, hc⟩ := Option.bind_eq_some_iff.mp hc
      obtain ⟨⟨bt, ρt⟩, ht1, hc⟩ := Option.bind_eq_some_iff.mp hc
      have b1 := b.keep0 k
      refine ⟨Zi, wipeE ρi vs, Fsi, items[i], ρg, b1.rel, rv, hg1, fun σ2 H2 Z2 Fs2 fn2 => ⟨?_, ?_⟩⟩
      · refine wipe_eq (by rw [fn2.sl, wipe_length]) fun j hj => ?_
        rw [fn2.sg j fun z => hj (inW j z), wipe_out' hj]
      · have b2 := b1.step fn2.rel fn2.frm fun j hj => inTl j (.inr (.inl hj))
        have outs2 : ∀ j, j ∉ vs → (wipe σ vs)[j]? = σ2[j]? := fun j hj => (fn2.sg j fun z => hj (inW j z)).symm
        refine ⟨Z2, ρg, Fs2, bt, ρt, fn2.rel, ht1, fun H3 Z3 Fs3 rel3 f3 => ?_⟩
        have b3 := b2.step rel3 f3 fun j hj => inTl j (.inr (.inr (.inl hj)))
        cases bt with
        | false =>
          refine iteF ?_
          rw [if_neg Bool.false_ne_true] at hc
          exact ⟨Z3, ρt, _, acc, b3.wipe vs (by rw [fn2.sl]) outs2 fun j hj => inTl j (.inl hj), b3.frm.len, hc⟩
        | true =>
          refine iteT ?_
          rw [if_pos rfl] at hc
          obtain ⟨⟨items1, ρq⟩, hi1, hc⟩ := Option.bind_eq_some_iff.mp hc
          obtain ⟨⟨racc, ρr⟩, hr1, hc⟩ := Option.bind_eq_some_iff.mp hc
          refine ⟨Z3, ρt, Fs3, items1, ρq, rel3, hi1, fun J1 H4 Z4 Fs4 G1 Y1 rel4 f4 wk1 stay1 => ?_⟩
          have b4 := b3.step rel4 f4 fun j hj => inTl j (.inr (.inr (.inr (.inl hj))))
          refine tv_inner (Wg1 := Wg1) (Tg1 := Tg1) (Tt1 := Tt1) (Te := Te) (ft1 := ft1) (g1 := g1) (fe := fe) hDD hW1 (fun j hj => inTl j ?_) b4 wk1 stay1 hr1 fun Z5 Fs5 H5 b5 => ?_
          · rcases hj with hj | hj | hj | hj
            · exact .inl (inV j hj)
            · exact .inr (.inr (.inr (.inr (.inl hj))))
            · exact .inr (.inr (.inr (.inr (.inr (.inl hj)))))
            · exact .inr (.inr (.inr (.inr (.inr (.inr hj)))))
          · refine ⟨Z5, wipeE ρr vs1, _, racc, b5.wipe vs (by rw [wipe_length σ2, fn2.sl]) (fun j hj => ?_) fun j hj => inTl j (.inl hj), b5.frm.len, hc⟩
            rw [wipe_out' (fun z => hj (inV j z))]
            exact outs2 j hj
    · have e : i = items.length := by omega
      subst e
      rw [List.drop_length] at hc
      cases hc
      refine .inl ⟨wk.stops Hi hG, ?_⟩
      obtain ⟨F, w, c⟩ := b.val
      have rb := Rel.back rel1 hok b.rel b.frm
      have fb := Frm.back (vs := vs) b.frm
      rw [backE_wipe hl] at rb fb
      exact q (.ref DD) Hi Zi _ F rb (f1.trans fb) w.wipe (Cf.late f1 (c.mono fun j hj => List.mem_append_left _ hj))
  · cases hf
theorem pev_lc2 {scope : Scope} {own : List (Str × Nat)} (vs vs1 : List Nat) (hc : X.calm = true) (hN : X.N.Nodup) (hi : PIV X T O tg iter fi) (ok : BlkOk X.N X.env.scope scope own)
    (hg : ∀ (s : Shared) (H : Hp) (C : Addr) (cl : List (Str × Addr)) (fp : List Addr), PGV (X.blk s H scope (compEnvC scope cl C X.env) fp) Wg Tg tg g) (ht : ∀ (s : Shared) (H : Hp) (C : Addr) (cl : List (Str × Addr)) (fp : List Addr), PTsV (X.blk s H scope (compEnvC scope cl C X.env) fp) Tt ifs ft)
    (hi1 : ∀ (s : Shared) (H : Hp) (C : Addr) (cl : List (Str × Addr)) (fp : List Addr), PIVr (X.blk s H scope (compEnvC scope cl C X.env) fp) T1 tg1 iter1 fi1)
    (hg1 : ∀ (s : Shared) (H : Hp) (C : Addr) (cl : List (Str × Addr)) (fp : List Addr), PGV (X.blk s H scope (compEnvC scope cl C X.env) fp) Wg1 Tg1 tg1 g1) (ht1 : ∀ (s : Shared) (H : Hp) (C : Addr) (cl : List (Str × Addr)) (fp : List Addr), PTsV (X.blk s H scope (compEnvC scope cl C X.env) fp) Tt1 ifs1 ft1)
    (he : ∀ (s : Shared) (H : Hp) (C : Addr) (cl : List (Str × Addr)) (fp : List Addr), PEV (X.blk s H scope (compEnvC scope cl C X.env) fp) Te [] true elt fe) (hvs : own.map (·.2) = vs := by rfl) (hv1 : vs1.all (fun i => vs.contains i) = true := by rfl) (hW : Wg.all (fun i => vs.contains i) = true := by rfl) (hW1 : Wg1.all (fun i => vs1.contains i) = true := by rfl)
    (ho : O.all (fun i => !(vs ++ (Tg ++ (Tt ++ (T1 ++ (Tg1 ++ (Tt1 ++ Te)))))).contains i) = true := by rfl) (hs : ∀ x, foldedSetIterable iter X.env x = pure x := by intro _; rfl) (hs1 : ∀ env x, foldedSetIterable iter1 env x = pure x := by intro _ _; rfl) :
    PEV X (T ++ ((vs ++ (Tg ++ (Tt ++ (T1 ++ (Tg1 ++ (Tt1 ++ Te)))))) ++ vs)) [] true (.ListComp elt [⟨tg, iter, ifs, 0⟩, ⟨tg1, iter1, ifs1, 0⟩] scope pos) (fComp2 vs vs1 fi g ft fi1 g1 ft1 fe) := by
  subst hvs
  have hv : ∀ i ∈ vs1, i ∈ own.map (·.2) := fun i hi => by simpa using List.all_eq_true.mp hv1 i hi
  exact PE.imp (pe_lc2 hc hN hi ok hv hg ht hi1 hg1 ht1 he hs hs1) fun σ H Q h => tv_comp2 _ _ hv1 hW hW1 ho h
end
end Vl

namespace Vl
open PySem PySem.Spec PyProof.Rows L2
/-! ### math.gcd, math.lcm -/
def rLcm : List V → Hp → VK → Prop := fun vs H Q => ∃ a b : Int, vs = [.int a, .int b] ∧ a.natAbs < 2 ^ 60 ∧ b.natAbs < 2 ^ 60 ∧ Q (.int ((Nat.lcm a.natAbs b.natAbs : Nat) : Int)) H
theorem log2_lt_of {n k : Nat} (h : n < 2 ^ k) (hk : 0 < k) : n.log2 < k := by
  by_cases h0 : n = 0
  · subst h0
    show Nat.log2 0 < k
    rw [show Nat.log2 0 = 0 by rfl]
    exact hk
  · exact (Nat.log2_lt h0).mpr h
theorem cr_lcm {X : Cx} : CallR X (.builtin "math.lcm") rLcm := fun pins s σ H vs us Q I r h => by
  obtain ⟨a, b, rfl, ha, hb, q⟩ := h
  obtain ⟨t, u, rfl⟩ := Vals.int2 r
  have e : (Nat.lcm 1 a.natAbs).lcm b.natAbs = Nat.lcm a.natAbs b.natAbs := by rw [Nat.lcm_one_left]
  refine PySem.W.mg_lcm_v (c := ((Nat.lcm a.natAbs b.natAbs : Nat) : Int)) (by omega) (by omega) (by rw [e]) ?_ ⟨.int _, H, I.tok _, ⟨_, rfl⟩, q⟩
  rw [Int.natAbs_natCast]
  have h1 : Nat.lcm a.natAbs b.natAbs ≤ a.natAbs * b.natAbs := Nat.div_le_self _ _
  have h2 : a.natAbs * b.natAbs ≤ 2 ^ 60 * 2 ^ 60 := Nat.mul_le_mul (Nat.le_of_lt ha) (Nat.le_of_lt hb)
  have h3 : Nat.lcm a.natAbs b.natAbs < 2 ^ 121 := Nat.lt_of_le_of_lt (Nat.le_trans h1 h2) (by decide)
  exact Nat.lt_trans (log2_lt_of h3 (by decide)) (by decide)
def gLcm (ds : List D) : Option D := match ds with
  | [.int a, .int b] => if (decide (a.natAbs < 2 ^ 60) && decide (b.natAbs < 2 ^ 60)) = true then some (.int ((Nat.lcm a.natAbs b.natAbs : Nat) : Int)) else none
  | _ => none
def gGcd (ds : List D) : Option D := match ds with
  | [.int a, .int b] => some (.int ((Nat.gcd a.natAbs b.natAbs : Nat) : Int))
  | _ => none
theorem cs_lcm {K : PySem.W.Frag} : ClS K rLcm gLcm := ClS.here fun Z H ds vs F1 d Q rs hg q => by
  unfold gLcm at hg
  split at hg
  · rename_i a b
    split at hg
    · rename_i h
      cases hg
      rw [Bool.and_eq_true] at h
      exact ⟨a, b, rs.ints2, of_decide_eq_true h.1, of_decide_eq_true h.2, q _ (.int _)⟩
    · cases hg
  · cases hg
theorem cs_gcd {K : PySem.W.Frag} : ClS K rGcd gGcd := ClS.here fun Z H ds vs F1 d Q rs hg q => by
  unfold gGcd at hg
  split at hg
  · rename_i a b
    cases hg
    exact ⟨a, b, rs.ints2, q _ (.int _)⟩
  · cases hg
theorem pev_callF {X : Cx} {T O : List Nat} {x : Bool} {e : Expr} {es : List Expr} {fr : M (List D)} {pos p : Pos} {id : String} {y : Str} {rc : List V → Hp → VK → Prop} {gc : List D → Option D} (hc : CallR X (.builtin id) rc) (hs : ClS X.K rc gc) (hg : Gl X y) (hm : X.mg y = some (.builtin id)) (ha : PAV X T O x (e :: es) fr)
    (hdb : (y == ("__debug__" : Str)) = false := by decide) (he : starEach (e :: es) X.env = (false, eval e X.env) :: starEach es X.env := by rfl) (hpl : (backTo pos (starEach es X.env)).any (·.1) = false := by rfl) :
    PEV X T [] true (.Call (.Name y p) (e :: es) [] pos) (fCl gc fr) := PE.imp (pe_callBfun hc hg hm ha hdb he hpl) fun _ _ _ h => tv_cl hs h
end Vl

namespace Vl
open PySem PySem.Spec PyProof.Rows L2
/-! ### a law's own head -/
theorem rs_ints {K : PySem.W.Frag} {Z : Addr → Prop} {H : Hp} : ∀ ns : List Int, Rs K Z H (ns.map D.int) (ns.map V.int) []
  | [] => .nil
  | n :: r => .cons0 (.int n) (rs_ints r)
theorem law_sp {K : PySem.W.Frag} {F : FD} (h : ∀ ns : List Int, ns.length ≤ 63 → (∀ z ∈ ns, Builtin.Int.intBits z ≤ 1048576) → F [.scr (ns.map .int)] = some (.bl true, [])) (H : Hp) (a : Addr) (ns : List Int) (hl : ns.length ≤ 63) (hb : ∀ z ∈ ns, Builtin.Int.intBits z ≤ 1048576)
    (ho : Only H) (hs : SqL K H a (ns.map V.int)) : spV K 1 0 F [.ref a] H (fun v _ => v = .bl true) fun _ _ _ => False := by
  have hf : SqF K H a (ns.map V.int) := by
    rcases hs with (hs | hs) | hs
    · rcases ho a with e | ⟨o, xs, e⟩ <;> (rw [e] at hs; cases hs)
    · exact .inl hs
    · exact .inr hs
  refine ⟨fun _ => False, [.scr (ns.map .int)], fun _ => [], .bl true, [], ⟨fun i d e => ?_, fun _ => List.nodup_nil, fun _ _ _ h => (by cases h), fun _ _ h => (by cases h), fun _ h => h.elim, fun _ _ h => (by cases h), rfl⟩, fun _ _ => rfl, rfl, Nat.zero_le _, h ns hl hb, rfl, fun v H' Z' Gs' F' rel f w c => w.r.bl_inv⟩
  cases i with
  | zero => cases e; exact ⟨_, rfl, .knw hf (rs_ints ns)⟩
  | succ i => cases i <;> cases e
/-- a module's tuple -/
theorem GD.tup {K : PySem.W.Frag} {a : Addr} {d : Option Addr} {sl : Array (Option Value)} {us : List Value} {n : Nat} {ds : List D} (h : K.lookup a = some ⟨.type "tuple", d, .seq us.toArray n, sl⟩) (hz : us.length ≤ 1000) (hr : ∃ vs, Vals vs us ∧ ∀ Z H, Rs K Z H ds vs []) : GD K (.ref a) (.tup ds) := by
  obtain ⟨vs, h1, h2⟩ := hr
  exact ⟨.ref a, rfl, fun Z H => .tup (.inr ⟨_, us.toArray, n, h, rfl, rfl, by rw [List.size_toArray, sizeLine_eq]; omega, by simpa using h1⟩) (h2 Z H)⟩
theorem gds_nil {K : PySem.W.Frag} : ∃ vs, Vals vs [] ∧ ∀ Z H, Rs K Z H [] vs [] := ⟨[], .nil, fun _ _ => .nil⟩
theorem gds_cons {K : PySem.W.Frag} {u : Value} {us : List Value} {d : D} {ds : List D} (h : GD K u d) (hr : ∃ vs, Vals vs us ∧ ∀ Z H, Rs K Z H ds vs []) : ∃ vs, Vals vs (u :: us) ∧ ∀ Z H, Rs K Z H (d :: ds) vs [] := by
  obtain ⟨v, h1, h2⟩ := h
  obtain ⟨vs, h3, h4⟩ := hr
  exact ⟨v :: vs, .cons h1 h3, fun Z H => .cons0 (h2 Z H) (h4 Z H)⟩
theorem GD.int {K : PySem.W.Frag} {i : Int} {t : Tok} : GD K (.int i t) (.int i) := ⟨.int i, ⟨t, rfl⟩, fun _ _ => .int i⟩
theorem GD.str {K : PySem.W.Frag} {i : Str} {t : Tok} : GD K (.str i t) (.str i) := ⟨.str i, ⟨t, rfl⟩, fun _ _ => .str i⟩
end Vl

namespace Vl
open PySem PySem.Spec PyProof.Rows L2 HT
/-! ### xs[::-1] -/
theorem fm_some {α β : Type} {f : α → Option β} {g : α → β} : ∀ l : List α, (∀ k ∈ l, f k = some (g k)) → l.filterMap f = l.map g
  | [], _ => rfl
  | a :: r, h => by
    rw [List.filterMap_cons, h a List.mem_cons_self, List.map_cons, fm_some r fun k hk => h k (List.mem_cons_of_mem _ hk)]
theorem pick_back (xs : Array Value) : ((List.range xs.size).filterMap fun (m : Nat) => xs[(((xs.size : Nat) : Int) - 1 + (m : Int) * (-1)).toNat]?) = xs.toList.reverse := by
  rw [fm_some (g := fun m => (xs[xs.size - 1 - m]?).getD .none) _ fun k hk => ?_]
  · refine List.ext_getElem (by simp) fun i h1 h2 => ?_
    have hi : i < xs.size := by simpa using h1
    rw [List.getElem_map, List.getElem_range, List.getElem_reverse]
    have e : xs[xs.size - 1 - i]? = some xs[xs.size - 1 - i] := Array.getElem?_eq_getElem (by omega)
    rw [e]
    simp
  · have hk := List.mem_range.mp hk
    have e : (((xs.size : Nat) : Int) - 1 + (k : Int) * (-1)).toNat = xs.size - 1 - k := by omega
    rw [e, Array.getElem?_eq_getElem (by omega)]
    rfl
section
variable {prog : Program} {w : World} {A : Around} {E : Value → Shared → Prop} {s : Shared}
theorem sliceApplied_back {sl : Addr} {vl vu vs : Value} {n : Nat} {Q : Int × Int × Nat → Shared → Prop} (hs : s.heap.IsSliceOf sl vl vu vs) (pl : IsPart vl none) (pu : IsPart vu none) (ps : IsPart vs (some (-1)))
    (h : Q (((n : Nat) : Int) - 1, -1, n) s) : wpAny (model prog w) A (Builtin.Slice.sliceApplied (.ref sl) (pure (n : Int))) Q E s := by
  obtain ⟨os, hos, hcs, hds⟩ := id hs
  unfold Builtin.Slice.sliceApplied Builtin.Slice.sliceFields
  refine wpAny_bind (wpAny_bind (wpAny_field hos hds (x := vl) rfl (wpAny_bind (wpAny_field hos hds (x := vu) rfl (wpAny_bind (wpAny_field hos hds (x := vs) rfl (wpAny_pure ?_)))))))
  refine wpAny_bind (slicePart_ ps ?_)
  show wpAny _ _ (if ((-1 : Int) == 0) = true then _ else _) _ _ s
  rw [if_neg (by decide)]
  refine wpAny_bind (slicePart_ pl (wpAny_bind (slicePart_ pu (wpAny_bind (wpAny_pure ?_)))))
  show wpAny _ _ (pure (((n : Nat) : Int) - 1, (-1 : Int), Builtin.Slice.slicePlaces (((n : Nat) : Int) - 1) (-1) (-1))) _ _ s
  have e : Builtin.Slice.slicePlaces (((n : Nat) : Int) - 1) (-1) (-1) = n := by
    unfold Builtin.Slice.slicePlaces
    rw [if_neg (by decide)]
    by_cases hn : n = 0
    · subst hn; rfl
    · rw [if_pos (by omega)]
      have : (((n : Nat) : Int) - 1 - -1 - 1) / (- -1) = ((n : Nat) : Int) - 1 := by
        rw [show (- -1 : Int) = 1 by decide, Int.ediv_one]; omega
      rw [this]
      omega
  rw [e]
  exact wpAny_pure h
theorem getItem_tuple_back {t sl : Addr} {items : Array Value} {vl vu vs : Value} {Q : Value → Shared → Prop} (ht : IsTup s.heap t items) (hs : s.heap.IsSliceOf sl vl vu vs) (pl : IsPart vl none) (pu : IsPart vu none) (ps : IsPart vs (some (-1)))
    (h : Q (.ref s.heap.objs.size) { s with heap := s.heap.push { cls := .type "tuple", data := .seq items.toList.reverse.toArray } })
    (hsz : items.size ≤ sizeLine) : wpAny (model prog w) A (getItem (.ref t) (.ref sl)) Q E s := by
  have htake : sizeOk (.seq items.toList.reverse.toArray) := by
    show items.toList.reverse.toArray.size ≤ sizeLine
    rw [List.size_toArray, List.length_reverse, Array.length_toList]
    exact hsz
  obtain ⟨os, hos, hcs, hds⟩ := id hs
  have hTs : s.TypeIs (.ref sl) "slice" := ⟨os, hos, hcs⟩
  unfold getItem
  try with_reducible refine wpAny_holding ?_
  first | refine wpAny_bind (wpAny_pure ?_) | skip
  refine wpAny_bind (wpAny_sequenceKey ht.typeIs (by decide) ?_)
  refine wpAny_bind (wpAny_callSpecial?_slot (name := Str.ofString "__getitem__") ht.typeIs PyProof.Rows.slot_tuple_getitem
    (wpAny_call_entry PyProof.Rows.slot_tuple_getitem ht.typeIs entry_tuple_getitem ?_ (args_tuple_getitem _ _)))
  show wpAny _ _ (Builtin.Tuple.tupleItemsOf (.ref t) >>= _) _ _ s
  refine wpAny_bind (tupleItemsOf_ ht ?_)
  refine wpAny_bind (wpAny_typeOf hTs ?_)
  rw [if_pos (by decide)]
  refine wpAny_bind (sliceApplied_back hs pl pu ps ?_)
  show wpAny _ _ (if ((((items.size : Nat) : Int) - 1 == 0 && (-1 : Int) == 1 && items.size == items.size)) = true then _ else _) _ _ s
  rw [if_neg (by simp), pick_back]
  first
    | exact wpAny_bind (m := Builtin.Tuple.tupleExact _) (wpAny_newObj_type (wpAny_pure ⟨_, rfl, wpAny_pure h⟩) htake)
    | exact wpAny_bind (m := Builtin.Tuple.tupleExact _) (wpAny_newObj_type (wpAny_bind (wpAny_pure (wpAny_pure ⟨_, rfl, wpAny_pure h⟩))) htake)
    | exact wpAny_bind (wpAny_bind (m := Builtin.Tuple.tupleExact _) (wpAny_newObj_type (wpAny_pure (wpAny_pure ⟨_, rfl, wpAny_pure h⟩)) htake))
    | exact wpAny_bind (wpAny_bind (m := Builtin.Tuple.tupleExact _) (wpAny_newObj_type (wpAny_pure ⟨_, rfl, wpAny_pure h⟩) htake))
end
section
variable {X : Cx} {T O : List Nat} {x : Bool} {e : Expr} {f : M D} {p1 p2 p3 pos : Pos} {k : Nat}
/-- a new list of a list, a new tuple of a tuple -/
def tRevS (K : PySem.W.Frag) (te : TE) : TE := fun σ H Q => te σ H fun v H1 => ∃ (a : Addr) (xs : List V), v = .ref a ∧ ((SqL K H1 a xs ∧ ∀ q, H1 q = none → Q (.ref q) (upd H1 q (.lst xs.reverse))) ∨ (SqT K H1 a xs ∧ ∀ q, H1 q = none → Q (.ref q) (upd H1 q (.tup xs.reverse))))
theorem pe_revS {te : TE} (he : PE X e te) : PE X (.Subscript e (.Slice none none (some (.UnaryOp .USub (.Constant (.int 1) k p1) p2)) p3) pos) (tRevS X.K te) := by
  refine ⟨fun pins s σ H Q I h => ?_⟩
  refine Subscript_ (thn (he.run pins s σ H _ I h) fun v s1 ⟨w0, H1, I1, r1, q1⟩ => ?_)
  obtain ⟨a, xs, ew, hx⟩ := q1
  subst ew
  obtain rfl : v = Value.ref a := r1
  have hst : PO X (some (.UnaryOp .USub (.Constant (.int 1) k p1) p2)) (tPart (tUn (rU fun i => .int (-i)) (tC (.int 1)))) := po_some (pe_un un_neg pe_int)
  refine wpAny_Slice (thn (po_none.run pins s1 σ H1 (fun o H2 => o = none ∧ H2 = H1) I1 ⟨rfl, rfl⟩) fun vl s2 ⟨l, H2, I2, pl, el, e2⟩ => ?_)
  subst el e2
  refine thn (po_none.run pins s2 σ H2 (fun o H3 => o = none ∧ H3 = H2) I2 ⟨rfl, rfl⟩) fun vu s3 ⟨u, H3, I3, pu, eu, e3⟩ => ?_
  subst eu e3
  refine thn (hst.run pins s3 σ H3 (fun o H4 => o = some (-1) ∧ H4 = H3) I3 ⟨1, rfl, -1, rfl, rfl, rfl⟩) fun vs s4 ⟨o, H4, I4, ps, eo, e4⟩ => ?_
  subst eo e4
  have I5 : Inv X pins σ H4 { s4 with heap := s4.heap.push { cls := .type "slice", data := .fields #[vl, vu, vs] } } := I4.kept (t' := s4.toks) fun b ob q => Heap.get?_push_of_some _ q
  show wpAny (model X.prog X.w) X.A (subscriptTail e (.Slice none none (some (.UnaryOp .USub (.Constant (.int 1) k p1) p2)) p3) (.ref a) (.ref s4.heap.objs.size)) (EP X pins σ Q) X.xe { s4 with heap := s4.heap.push { cls := .type "slice", data := .fields #[vl, vu, vs] } }
  rcases hx with ⟨hx, q⟩ | ⟨hx, q⟩
  · obtain ⟨its, r, ht, hz⟩ := I5.list hx
    have hlen := r.length
    refine tail_any (ops := [.ref a, .ref s4.heap.objs.size]) ht.isList.typeIs (PySem.slot_list_getitem.lookup) ?_ (by with_unfolding_all rfl)
    refine wpAny_getItem_list_slice ht.isList (Heap.IsSliceOf.new _ vl vu vs) pl pu ps (by decide) ?_ (by rw [List.size_toArray]; omega)
    rw [PySem.W.krv_pick]
    refine ⟨.ref _, _, I5.laid (t' := s4.toks) (o := .lst xs.reverse) (fun b ob q => Heap.get?_push_of_some _ q) (Nat.le_refl _) ?_, rfl, q _ (I5.hok.fresh (Nat.le_refl _))⟩
    exact ⟨by rw [List.length_reverse]; exact hz, _, 0, r.reverse, Heap.get?_push_size _ rfl⟩
  · obtain ⟨its, r, ht, hz⟩ := I5.tuple hx
    have hlen := r.length
    refine tail_any (ops := [.ref a, .ref s4.heap.objs.size]) ht.typeIs (PyProof.Rows.slot_tuple_getitem.lookup) ?_ (by with_unfolding_all rfl)
    refine getItem_tuple_back ht (Heap.IsSliceOf.new _ vl vu vs) pl pu ps ?_ (by rw [List.size_toArray]; omega)
    refine ⟨.ref _, _, I5.laid (t' := s4.toks) (o := .tup xs.reverse) (fun b ob q => Heap.get?_push_of_some _ q) (Nat.le_refl _) ?_, rfl, q _ (I5.hok.fresh (Nat.le_refl _))⟩
    exact ⟨by rw [List.length_reverse]; exact hz, _, r.reverse, IsTup.new _ _⟩
def gRevS (d : D) : Option D := match d with
  | .tup l => if D.noOwnL l = true then some (.tup l.reverse) else none
  | .lst _ l => if D.noOwnL l = true then some (.lst true l.reverse) else none
  | .scr l => if D.noOwnL l = true then some (.lst true l.reverse) else none
  | _ => none
def fRevS (f : M D) : M D := fun ρ => (f ρ).bind fun p => (gRevS p.1).bind fun d => some (d, p.2)
theorem pev_revS (he : PEV X T O x e f) : PEV X T [] true (.Subscript e (.Slice none none (some (.UnaryOp .USub (.Constant (.int 1) k p1) p2)) p3) pos) (fRevS f) := by
  refine PE.imp (pe_revS he) fun σ H Q h => ?_
  obtain ⟨Z, ρ, Fs, d, ρ', rel, hf, q⟩ := h
  unfold fRevS at hf
  obtain ⟨⟨d1, ρ1⟩, h1, hf⟩ := Option.bind_eq_some_iff.mp hf
  obtain ⟨d', h2, hf⟩ := Option.bind_eq_some_iff.mp hf
  cases hf
  refine ⟨Z, ρ, Fs, d1, _, rel, h1, fun v H' Z' Fs' F rel' f' w c => ?_⟩
  cases d1 <;> simp only [gRevS] at h2 <;> try (cases h2)
  · split at h2
    · rename_i hn
      cases h2
      obtain ⟨a, vs, e, hq, rs⟩ := w.r.tup_inv
      refine ⟨a, vs, e, .inr ⟨hq, fun p hp => ?_⟩⟩
      refine new_tup hp (rs.nil_of hn).rev0 fun v H2 F k r nd nw => ?_
      have fz := f'.trans (Frm.pureT [] k)
      rw [List.append_nil] at fz
      exact q v H2 Z' Fs' F (rel'.keep0 k) fz (Val.new rel' r nd nw) (Cf.new f'.keep nw)
    · cases h2
  · split at h2
    · rename_i hn
      cases h2
      obtain ⟨a, vs, G, e, hq, rs, _⟩ := w.r.lst_at
      refine ⟨a, vs, e, .inl ⟨hq, fun p hp => ?_⟩⟩
      refine new_list hp (rs.nil_of hn).rev0 fun v H2 F k r nd nw => ?_
      have fz := f'.trans (Frm.pureT [] k)
      rw [List.append_nil] at fz
      exact q v H2 Z' Fs' F (rel'.keep0 k) fz (Val.new rel' r nd nw) (Cf.new f'.keep nw)
    · cases h2
  · split at h2
    · cases h2
      obtain ⟨a, vs, e, _, hq, rs⟩ := w.r.scr_at
      refine ⟨a, vs, e, .inl ⟨hq, fun p hp => ?_⟩⟩
      refine new_list hp rs.rev0 fun v H2 F k r nd nw => ?_
      have fz := f'.trans (Frm.pureT [] k)
      rw [List.append_nil] at fz
      exact q v H2 Z' Fs' F (rel'.keep0 k) fz (Val.new rel' r nd nw) (Cf.new f'.keep nw)
    · cases h2
end
end Vl

section
set_option maxHeartbeats 4000000
namespace G02
open PySem PySem.Spec PyProof.Rows L2 Vl
def topS (i : Nat) : Stmt := PySem.Challenge.pw_knotsooth_k02_quotients_and_exchanged_le.main.body.getD i (.Pass ⟨0, 0, 0, 0⟩)
def c_ZERO : D := (.tup [(.int 0), (.tup [])])
abbrev sf_normal : Stmt := topS 2
abbrev N_normal : List Str := ["least", "numbers", "first", "last"]
theorem sc_normal : FnScope N_normal ["least", "numbers"] (defScope sf_normal) := ⟨rfl, rfl, rfl, by decide +kernel, rfl, by decide +kernel, by decide +kernel⟩
abbrev sf_single : Stmt := topS 3
abbrev N_single : List Str := ["number", "exponent"]
theorem sc_single : FnScope N_single ["number", "exponent"] (defScope sf_single) := ⟨rfl, rfl, rfl, by decide +kernel, rfl, by decide +kernel, by decide +kernel⟩
abbrev sf_coefficient : Stmt := topS 4
abbrev N_coefficient : List Str := ["one", "exponent", "place"]
theorem sc_coefficient : FnScope N_coefficient ["one", "exponent"] (defScope sf_coefficient) := ⟨rfl, rfl, rfl, by decide +kernel, rfl, by decide +kernel, by decide +kernel⟩
abbrev sf_plus : Stmt := topS 5
abbrev N_plus : List Str := ["one", "other", "least", "most", "place"]
theorem sc_plus : FnScope N_plus ["one", "other"] (defScope sf_plus) := ⟨rfl, rfl, rfl, by decide +kernel, rfl, by decide +kernel, by decide +kernel⟩
abbrev sf_times : Stmt := topS 6
abbrev N_times : List Str := ["one", "other", "numbers", "at", "first", "place", "second"]
theorem sc_times : FnScope N_times ["one", "other"] (defScope sf_times) := ⟨rfl, rfl, rfl, by decide +kernel, rfl, by decide +kernel, by decide +kernel⟩
abbrev sf_spread : Stmt := topS 7
abbrev N_spread : List Str := ["one", "step", "found", "place", "number"]
theorem sc_spread : FnScope N_spread ["one", "step"] (defScope sf_spread) := ⟨rfl, rfl, rfl, by decide +kernel, rfl, by decide +kernel, by decide +kernel⟩
abbrev sf_from_terms : Stmt := topS 8
abbrev N_from_terms : List Str := ["terms", "least", "place"]
theorem sc_from_terms : FnScope N_from_terms ["terms"] (defScope sf_from_terms) := ⟨rfl, rfl, rfl, by decide +kernel, rfl, by decide +kernel, by decide +kernel⟩
abbrev sf_quotient : Stmt := topS 9
abbrev N_quotient : List Str := ["one", "other", "left", "found", "lead", "place", "number", "at", "part"]
theorem sc_quotient : FnScope N_quotient ["one", "other"] (defScope sf_quotient) := ⟨rfl, rfl, rfl, by decide +kernel, rfl, by decide +kernel, by decide +kernel⟩
abbrev sf_unit_free : Stmt := topS 10
abbrev N_unit_free : List Str := ["one", "number"]
theorem sc_unit_free : FnScope N_unit_free ["one"] (defScope sf_unit_free) := ⟨rfl, rfl, rfl, by decide +kernel, rfl, by decide +kernel, by decide +kernel⟩
abbrev sf_value_at : Stmt := topS 11
abbrev N_value_at : List Str := ["one", "number", "value", "part"]
theorem sc_value_at : FnScope N_value_at ["one", "number"] (defScope sf_value_at) := ⟨rfl, rfl, rfl, by decide +kernel, rfl, by decide +kernel, by decide +kernel⟩
abbrev sf_composed : Stmt := topS 12
abbrev N_composed : List Str := ["one", "other", "found", "exponent"]
theorem sc_composed : FnScope N_composed ["one", "other"] (defScope sf_composed) := ⟨rfl, rfl, rfl, by decide +kernel, rfl, by decide +kernel, by decide +kernel⟩
abbrev sf_is_palindrome : Stmt := topS 13
abbrev N_is_palindrome : List Str := ["one"]
theorem sc_is_palindrome : FnScope N_is_palindrome ["one"] (defScope sf_is_palindrome) := ⟨rfl, rfl, rfl, by decide +kernel, rfl, by decide +kernel, by decide +kernel⟩
abbrev sf__law_state : Stmt := topS 15
abbrev N__law_state : List Str := ["script"]
theorem sc__law_state : FnScope N__law_state ["script"] (defScope sf__law_state) := ⟨rfl, rfl, rfl, by decide +kernel, rfl, by decide +kernel, by decide +kernel⟩
abbrev sf__law_draw : Stmt := topS 16
abbrev N__law_draw : List Str := ["state", "limit", "cell", "digit", "mixed"]
theorem sc__law_draw : FnScope N__law_draw ["state", "limit"] (defScope sf__law_draw) := ⟨rfl, rfl, rfl, by decide +kernel, rfl, by decide +kernel, by decide +kernel⟩
abbrev sf__law_truth : Stmt := topS 17
abbrev N__law_truth : List Str := ["told", "due"]
theorem sc__law_truth : FnScope N__law_truth ["told", "due"] (defScope sf__law_truth) := ⟨rfl, rfl, rfl, by decide +kernel, rfl, by decide +kernel, by decide +kernel⟩
abbrev sf__law_terms : Stmt := topS 18
abbrev N__law_terms : List Str := ["one", "terms", "place"]
theorem sc__law_terms : FnScope N__law_terms ["one"] (defScope sf__law_terms) := ⟨rfl, rfl, rfl, by decide +kernel, rfl, by decide +kernel, by decide +kernel⟩
abbrev sf__law_poly : Stmt := topS 19
abbrev N__law_poly : List Str := ["terms", "kept", "place", "least"]
theorem sc__law_poly : FnScope N__law_poly ["terms"] (defScope sf__law_poly) := ⟨rfl, rfl, rfl, by decide +kernel, rfl, by decide +kernel, by decide +kernel⟩
abbrev sf__law_plus : Stmt := topS 20
abbrev N__law_plus : List Str := ["one", "two", "terms", "place"]
theorem sc__law_plus : FnScope N__law_plus ["one", "two"] (defScope sf__law_plus) := ⟨rfl, rfl, rfl, by decide +kernel, rfl, by decide +kernel, by decide +kernel⟩
abbrev sf__law_times : Stmt := topS 21
abbrev N__law_times : List Str := ["one", "two", "terms", "place", "other"]
theorem sc__law_times : FnScope N__law_times ["one", "two"] (defScope sf__law_times) := ⟨rfl, rfl, rfl, by decide +kernel, rfl, by decide +kernel, by decide +kernel⟩
abbrev sf__law_is_poly : Stmt := topS 22
abbrev N__law_is_poly : List Str := ["value", "part"]
theorem sc__law_is_poly : FnScope N__law_is_poly ["value"] (defScope sf__law_is_poly) := ⟨rfl, rfl, rfl, by decide +kernel, rfl, by decide +kernel, by decide +kernel⟩
abbrev sf__law_drawn_poly : Stmt := topS 23
abbrev N__law_drawn_poly : List Str := ["state", "most", "terms", "low", "k", "number"]
theorem sc__law_drawn_poly : FnScope N__law_drawn_poly ["state", "most"] (defScope sf__law_drawn_poly) := ⟨rfl, rfl, rfl, by decide +kernel, rfl, by decide +kernel, by decide +kernel⟩
abbrev sf__law_divided : Stmt := topS 24
abbrev N__law_divided : List Str := ["one", "two", "left", "found", "top", "turn", "place", "number", "part", "other"]
theorem sc__law_divided : FnScope N__law_divided ["one", "two"] (defScope sf__law_divided) := ⟨rfl, rfl, rfl, by decide +kernel, rfl, by decide +kernel, by decide +kernel⟩
abbrev sf_law : Stmt := topS 25
abbrev N_law : List Str := ["script", "state", "one", "two", "first", "second", "whole", "spoiled", "place", "top", "terms", "due", "told", "free", "sign", "number", "step", "wide", "high", "part", "k", "value"]
theorem sc_law : FnScope N_law ["script"] (defScope sf_law) := ⟨rfl, rfl, rfl, by decide +kernel, rfl, by decide +kernel, by decide +kernel⟩
def F_normal : FD := runF 2 0 4
    (sSeq (sSet 2 (fC (.int 0)))
    (sSeq (sWhile (fAnd (fB (fOp [2] ([] ++ []) gLt (fVar 2) (fCl gLen (fCons [1] [] (fVar 1) fNil)))) (fB (fOp [1] [] gEq (fOp [1] [] gIxA (fVar 1) (fVar 2)) (fC (.int 0))))) (sAug 2 [] gAddI (fC (.int 1))))
    (sSeq (sSet 3 (fCl gLen (fCons [1] [] (fVar 1) fNil)))
    (sSeq (sWhile (fAnd (fB (fOp [3] [] gGt (fVar 3) (fVar 2))) (fB (fOp [1] [] gEq (fOp [1] ([] ++ []) gIxA (fVar 1) (fOp [3] [] gSub (fVar 3) (fC (.int 1)))) (fC (.int 0))))) (sAug 3 [] gSub (fC (.int 1))))
    (sSeq (sIf (fB (fOp [2] [] gEq (fVar 2) (fVar 3))) (sRet (fC c_ZERO)) sNil)
    (sRet (fTup (fCons [] ((([] ++ ([] ++ [])) ++ []) ++ []) (fOp [0] [] gAdd (fVar 0) (fVar 2)) (fCons [] [] (fCl gTuple (fCons [] [] (fSl [1] ([] ++ []) (fVar 1) (oSome (fVar 2)) (oSome (fVar 3))) fNil)) fNil)))))))))
def F_single : FD := runF 2 0 2
    (sRet (fCall F_normal (fCons [1] (([0] ++ []) ++ []) (fVar 1) (fCons [] [] (fTup (fCons [] [] (fAli 0) fNil)) fNil))))
def F_coefficient : FD := runF 2 0 3
    (sSeq (sSet 2 (fOp [1] ([] ++ []) gSub (fVar 1) (fOp [0] [] gIxA (fVar 0) (fC (.int 0)))))
    (sRet (fIf (fB (fChain [] [] [2] (([] ++ []) ++ []) gLe gLt (fC (.int 0)) (fVar 2) (fCl gLen (fCons [0] [] (fOp [0] [] gIxA (fVar 0) (fC (.int 1))) fNil)))) (chk (fOp [0] [] gIxA (fOp [0] [] gIxA (fVar 0) (fC (.int 1))) (fVar 2))) (fC (.int 0)))))
def F_plus : FD := runF 2 0 5
    (sSeq (sIf (fOr (fB (fOp [0] [] gEq (fVar 0) (fC c_ZERO))) (fB (fOp [1] [] gEq (fVar 1) (fC c_ZERO)))) (sRet (fIf (fB (fOp [0] [] gEq (fVar 0) (fC c_ZERO))) (fAli 1) (fAli 0))) sNil)
    (sSeq (sSet 2 (fCl gMinA (fCons [0] (([] ++ []) ++ []) (fOp [0] [] gIxA (fVar 0) (fC (.int 0))) (fCons [1] [] (fOp [1] [] gIxA (fVar 1) (fC (.int 0))) fNil))))
    (sSeq (sSet 3 (fCl gMaxA (fCons [] ((([] ++ []) ++ (([] ++ []) ++ [])) ++ []) (fOp [0] (([] ++ []) ++ []) gAdd (fOp [0] [] gIxA (fVar 0) (fC (.int 0))) (fCl gLen (fCons [0] [] (fOp [0] [] gIxA (fVar 0) (fC (.int 1))) fNil))) (fCons [] [] (fOp [1] (([] ++ []) ++ []) gAdd (fOp [1] [] gIxA (fVar 1) (fC (.int 0))) (fCl gLen (fCons [1] [] (fOp [1] [] gIxA (fVar 1) (fC (.int 1))) fNil))) fNil))))
    (sRet (fCall F_normal (fCons [2] ((([] ++ ([] ++ [])) ++ (([4] ++ ([4] ++ ([] ++ (([] ++ ([] ++ [])) ++ ([] ++ ([] ++ [])))))) ++ [4])) ++ []) (fVar 2) (fCons [] [] (fComp [4] (iRg2 (fCons [2] ([] ++ []) (fVar 2) (fCons [3] [] (fVar 3) fNil))) (gNm 4) fYes (fOp [] ([] ++ ([] ++ [])) gAdd (fCall F_coefficient (fCons [0] ([] ++ []) (fVar 0) (fCons [4] [] (fVar 4) fNil))) (fCall F_coefficient (fCons [1] ([] ++ []) (fVar 1) (fCons [4] [] (fVar 4) fNil))))) fNil)))))))
def F_times : FD := runF 2 0 7
    (sSeq (sIf (fOr (fB (fOp [0] [] gEq (fVar 0) (fC c_ZERO))) (fB (fOp [1] [] gEq (fVar 1) (fC c_ZERO)))) (sRet (fC c_ZERO)) sNil)
    (sSeq (sSet 2 (fOp [] (((([] ++ []) ++ []) ++ (([] ++ []) ++ [])) ++ []) gMul (fLst (fCons [] [] (fC (.int 0)) fNil)) (fOp [] [] gSub (fOp [] (([] ++ []) ++ []) gAdd (fCl gLen (fCons [0] [] (fOp [0] [] gIxA (fVar 0) (fC (.int 1))) fNil)) (fCl gLen (fCons [1] [] (fOp [1] [] gIxA (fVar 1) (fC (.int 1))) fNil))) (fC (.int 1)))))
    (sSeq (sFor (iEnm (fOp [0] [] gIxA (fVar 0) (fC (.int 1)))) (gTp 2 (gsCons (gNm 3) (gsCons (gNm 4) gsNil))) (sFor (iEnm (fOp [1] [] gIxA (fVar 1) (fC (.int 1)))) (gTp 2 (gsCons (gNm 5) (gsCons (gNm 6) gsNil))) (sAugS 2 gAddI (fOp [3] [] gAdd (fVar 3) (fVar 5)) (fOp [4] [] gMul (fVar 4) (fVar 6)))))
    (sRet (fCall F_normal (fCons [] ([] ++ []) (fOp [0] ([] ++ []) gAdd (fOp [0] [] gIxA (fVar 0) (fC (.int 0))) (fOp [1] [] gIxA (fVar 1) (fC (.int 0)))) (fCons [2] [] (fVar 2) fNil)))))))
def F_from_terms : FD := runF 1 0 3
    (sSeq (sIf (fB (fOp [0] [] gEqZ (fVar 0) fDnew)) (sRet (fC c_ZERO)) sNil)
    (sSeq (sSet 1 (fCl gMinA (fCons [0] [] (fVar 0) fNil)))
    (sRet (fCall F_normal (fCons [1] ((([] ++ ((([] ++ []) ++ []) ++ [])) ++ (([2] ++ ([2] ++ ([] ++ ([] ++ ([] ++ []))))) ++ [2])) ++ []) (fVar 1) (fCons [] [] (fComp [2] (iRg2 (fCons [1] ((([] ++ []) ++ []) ++ []) (fVar 1) (fCons [] [] (fOp [] [] gAdd (fCl gMaxA (fCons [0] [] (fVar 0) fNil)) (fC (.int 1))) fNil))) (gNm 2) fYes (fGet2 [0] [] [] (fVar 0) (fVar 2) (fC (.int 0)))) fNil))))))
def F_spread : FD := runF 2 0 5
    (sSeq (sSet 2 fDnew)
    (sSeq (sFor (iEnm (fOp [0] [] gIxA (fVar 0) (fC (.int 1)))) (gTp 2 (gsCons (gNm 3) (gsCons (gNm 4) gsNil))) (sAsg (gSt 2 (fOp [] [] gMul (fOp [0] [] gAdd (fOp [0] [] gIxA (fVar 0) (fC (.int 0))) (fVar 3)) (fVar 1))) (fVar 4)))
    (sRet (fCall F_from_terms (fCons [2] [] (fVar 2) fNil)))))
def F_quotient : FD := runF 2 0 9
    (sSeq (sIf (fB (fOp [0] [] gEq (fVar 0) (fC c_ZERO))) (sRet (fC c_ZERO)) sNil)
    (sSeq (sSet 2 (fCl gListA (fCons [0] [] (fOp [0] [] gIxA (fVar 0) (fC (.int 1))) fNil)))
    (sSeq (sSet 3 (fLst fNil))
    (sSeq (sSet 4 (chk (fOp [1] [] gIxA (fOp [1] [] gIxA (fVar 1) (fC (.int 1))) (fUn gNeg (fC (.int 1))))))
    (sSeq (sFor (iRg3 (fCons [] ([] ++ ([] ++ [])) (fOp [] (([] ++ []) ++ []) gSub (fCl gLen (fCons [2] [] (fVar 2) fNil)) (fCl gLen (fCons [1] [] (fOp [1] [] gIxA (fVar 1) (fC (.int 1))) fNil))) (fCons [] ([] ++ []) (fUn gNeg (fC (.int 1))) (fCons [] [] (fUn gNeg (fC (.int 1))) fNil)))) (gNm 5) (sSeq (sSet 6 (chk (fOp [2] (([] ++ (([] ++ []) ++ [])) ++ []) gIxA (fVar 2) (fOp [] [] gSub (fOp [5] (([] ++ []) ++ []) gAdd (fVar 5) (fCl gLen (fCons [1] [] (fOp [1] [] gIxA (fVar 1) (fC (.int 1))) fNil))) (fC (.int 1))))))
    (sSeq (sIf (fB (fOp [] [] gNe (fOp [6] [] gMod (fVar 6) (fVar 4)) (fC (.int 0)))) (sRet (fC .non)) sNil)
    (sSeq (sDrop (fMut 3 "list" gAppend (fCons [] [] (fOp [6] [] gDiv (fVar 6) (fVar 4)) fNil)))
    (sFor (iEnm (fOp [1] [] gIxA (fVar 1) (fC (.int 1)))) (gTp 2 (gsCons (gNm 7) (gsCons (gNm 8) gsNil))) (sAugS 2 gSub (fOp [5] [] gAdd (fVar 5) (fVar 7)) (fOp [3] [] gMul (fOp [3] [] gIxA (fVar 3) (fUn gNeg (fC (.int 1)))) (fVar 8))))))))
    (sSeq (sIf (fTr (fCl gAny (fCons [] [] (fComp [6] (iSeq (fVar 2)) (gNm 6) fYes (fOp [6] [] gNe (fVar 6) (fC (.int 0)))) fNil))) (sRet (fC .non)) sNil)
    (sRet (fCall F_normal (fCons [] ([] ++ []) (fOp [0] ([] ++ []) gSub (fOp [0] [] gIxA (fVar 0) (fC (.int 0))) (fOp [1] [] gIxA (fVar 1) (fC (.int 0)))) (fCons [] [] (fRevS (fVar 3)) fNil))))))))))
def F_unit_free : FD := runF 1 0 2
    (sSeq (sIf (fB (fOp [0] [] gEq (fVar 0) (fC c_ZERO))) (sRet (fC c_ZERO)) sNil)
    (sRet (fIf (fB (fOp [0] [] gGt (fOp [0] [] gIxA (fOp [0] [] gIxA (fVar 0) (fC (.int 1))) (fC (.int 0))) (fC (.int 0)))) (fTup (fCons [] (([] ++ []) ++ []) (fC (.int 0)) (fCons [] [] (chk (fOp [0] [] gIxA (fVar 0) (fC (.int 1)))) fNil))) (fTup (fCons [] (((([] ++ []) ++ (([1] ++ ([1] ++ ([] ++ []))) ++ [1])) ++ []) ++ []) (fC (.int 0)) (fCons [] [] (fCl gTuple (fCons [] [] (fComp [1] (iSeq (fOp [0] [] gIxA (fVar 0) (fC (.int 1)))) (gNm 1) fYes (fUn gNeg (fVar 1))) fNil)) fNil))))))
def F_value_at : FD := runF 2 0 4
    (sSeq (sSet 2 (fC (.int 0)))
    (sSeq (sFor (iRev (fOp [0] [] gIxA (fVar 0) (fC (.int 1)))) (gNm 3) (sSet 2 (fOp [] [] gAdd (fOp [2] [] gMul (fVar 2) (fVar 1)) (fVar 3))))
    (sSeq (sIf (fAnd (fB (fOp [] [] gNe (fOp [0] [] gMod (fOp [0] [] gIxA (fVar 0) (fC (.int 0))) (fC (.int 2))) (fC (.int 0)))) (fB (fOp [1] [] gEq (fVar 1) (fUn gNeg (fC (.int 1)))))) (sRet (fUn gNeg (fVar 2))) sNil)
    (sRet (fMov 2)))))
def F_composed : FD := runF 2 0 4
    (sSeq (sSet 2 (fC c_ZERO))
    (sSeq (sFor (iRg3 (fCons [] ([] ++ ([] ++ [])) (fOp [] [] gSub (fOp [0] (([] ++ []) ++ []) gAdd (fOp [0] [] gIxA (fVar 0) (fC (.int 0))) (fCl gLen (fCons [0] [] (fOp [0] [] gIxA (fVar 0) (fC (.int 1))) fNil))) (fC (.int 1))) (fCons [] ([] ++ []) (fUn gNeg (fC (.int 1))) (fCons [] [] (fUn gNeg (fC (.int 1))) fNil)))) (gNm 3) (sSet 2 (fCall F_plus (fCons [] ((([] ++ ([] ++ [])) ++ ([] ++ [])) ++ []) (fCall F_times (fCons [2] ([] ++ []) (fVar 2) (fCons [1] [] (fVar 1) fNil))) (fCons [] [] (fCall F_single (fCons [] ([] ++ []) (fCall F_coefficient (fCons [0] ([] ++ []) (fVar 0) (fCons [3] [] (fVar 3) fNil))) (fCons [] [] (fC (.int 0)) fNil))) fNil)))))
    (sRet (fMov 2))))
def F_is_palindrome : FD := runF 1 0 1
    (sRet (fOp [0] ([] ++ []) gEq (fOp [0] [] gIxA (fVar 0) (fC (.int 1))) (fTupRev (fOp [0] [] gIxA (fVar 0) (fC (.int 1))))))
def F__law_state : FD := runF 1 0 1
    (sRet (fLst (fCons [] ([] ++ ([] ++ ([] ++ ([] ++ ([] ++ []))))) (fFz (fCl gListA (fCons [0] [] (fVar 0) fNil))) (fCons [] ([] ++ ([] ++ ([] ++ ([] ++ [])))) (fC (.int 0)) (fCons [] ([] ++ ([] ++ ([] ++ []))) (fC (.int 0)) (fCons [] ([] ++ ([] ++ [])) (fC (.int 0)) (fCons [] ([] ++ []) (fC (.bl false)) (fCons [] [] (fC (.int 500)) fNil))))))))
def F__law_draw : FD := runF 2 1 5
    (sSeq (sIf (fB (fOp [0] [] gEq (fOp [0] [] gIxA (fVar 0) (fC (.int 3))) (fC (.int 0)))) (sSeq (sIf (fB (fOp [0] (([] ++ []) ++ []) gGe (fOp [0] [] gIxA (fVar 0) (fC (.int 1))) (fCl gLen (fCons [0] [] (fOp [0] [] gIxA (fVar 0) (fC (.int 0))) fNil)))) (sRet (fC (.int 0))) sNil)
    (sSeq (sSet 2 (chk (fOp [0] ([] ++ []) gIxA (fOp [0] [] gIxA (fVar 0) (fC (.int 0))) (fOp [0] [] gIxA (fVar 0) (fC (.int 1))))))
    (sSeq (sIf (fB (fOp [2] [] gLt (fVar 2) (fC (.int 0)))) (sSet 2 (fOp [] [] gSub (fUn gNeg (fC (.int 1))) (fVar 2))) sNil)
    (sSeq (sAsg (gSt 0 (fC (.int 1))) (fOp [0] [] gAdd (fOp [0] [] gIxA (fVar 0) (fC (.int 1))) (fC (.int 1))))
    (sSeq (sAsg (gSt 0 (fC (.int 2))) (fVar 2))
    (sSeq (sAsg (gSt 0 (fC (.int 4))) (fOp [2] ([] ++ []) gGe (fVar 2) (fOp [] [] gPow (fC (.int 10)) (fC (.int 18)))))
    (sSeq (sAsg (gSt 0 (fC (.int 3))) (fC (.int 6)))
    (sIf (fTr (fOp [0] [] gIxA (fVar 0) (fC (.int 4)))) (sAsg (gSt 0 (fC (.int 3))) (fC (.int 60))) sNil)))))))) sNil)
    (sSeq (sAsg (gSt 0 (fC (.int 3))) (fOp [0] [] gSub (fOp [0] [] gIxA (fVar 0) (fC (.int 3))) (fC (.int 1))))
    (sSeq (sIf (fTr (fOp [0] [] gIxA (fVar 0) (fC (.int 4)))) (sSeq (sSet 3 (fOp [] [] gMod (fCl gInt (fCons [0] [] (fOp [0] [] gIxA (fVar 0) (fC (.int 2))) fNil)) (fVar 1)))
    (sSeq (sAsg (gSt 0 (fC (.int 2))) (fOp [0] [] gDiv (fOp [0] [] gIxA (fVar 0) (fC (.int 2))) (fVar 1)))
    (sSeq (sIf (fB (fOp [0] [] gEq (fOp [0] [] gIxA (fVar 0) (fC (.int 2))) (fC (.int 0)))) (sAsg (gSt 0 (fC (.int 3))) (fC (.int 0))) sNil)
    (sRet (fMov 3))))) sNil)
    (sSeq (sSet 4 (fOp [] [] gMod (fCl gInt (fCons [] [] (fOp [] [] gAdd (fOp [] (([] ++ []) ++ []) gAdd (fOp [0] [] gMul (fOp [0] [] gIxA (fVar 0) (fC (.int 2))) (fC (.int 48271))) (fOp [0] [] gMul (fOp [0] [] gIxA (fVar 0) (fC (.int 3))) (fC (.int 69621)))) (fC (.int 7))) fNil)) (fC (.int 2147483647))))
    (sSeq (sSet 4 (fOp [] [] gMod (fCl gInt (fCons [] [] (fOp [] ([] ++ []) gAdd (fOp [] (([] ++ []) ++ []) gAdd (fOp [4] [] gMul (fVar 4) (fVar 4)) (fOp [0] [] gMul (fOp [0] [] gIxA (fVar 0) (fC (.int 2))) (fC (.int 31)))) (fOp [0] [] gIxA (fVar 0) (fC (.int 3)))) fNil)) (fC (.int 1000003))))
    (sRet (fOp [] [] gMod (fCl gInt (fCons [4] [] (fVar 4) fNil)) (fVar 1))))))))
def F__law_truth : FD := runF 2 0 2
    (sSeq (sIf (fTr (fVar 1)) (sRet (fOp [0] [] gIs (fVar 0) (fC (.bl true)))) sNil)
    (sRet (fOp [0] [] gIs (fVar 0) (fC (.bl false)))))
def F__law_terms : FD := runF 1 0 3
    (sSeq (sSet 1 fDnew)
    (sSeq (sFor (iRg1 (fCons [] [] (fCl gLen (fCons [0] [] (fOp [0] [] gIxA (fVar 0) (fC (.int 1))) fNil)) fNil)) (gNm 2) (sIf (fB (fOp [0] [] gNe (fOp [0] [] gIxA (fOp [0] [] gIxA (fVar 0) (fC (.int 1))) (fVar 2)) (fC (.int 0)))) (sAsg (gSt 1 (fOp [0] [] gAdd (fOp [0] [] gIxA (fVar 0) (fC (.int 0))) (fVar 2))) (fOp [0] [] gIxA (fOp [0] [] gIxA (fVar 0) (fC (.int 1))) (fVar 2))) sNil))
    (sRet (fMov 1))))
def F__law_poly : FD := runF 1 0 4
    (sSeq (sSet 1 (fCl gSortedI (fCons [] [] (fDk 0 (fComp [2] (iKy 0) (gNm 2) (fB (fOp [0] [] gNe (fOp [0] [] gIxA (fVar 0) (fVar 2)) (fC (.int 0)))) (fVal 2))) fNil)))
    (sSeq (sIf (fB (fOp [] [] gEq (fCl gLen (fCons [1] [] (fVar 1) fNil)) (fC (.int 0)))) (sRet (fTup (fCons [] ([] ++ []) (fC (.int 0)) (fCons [] [] (fTup fNil) fNil)))) sNil)
    (sSeq (sSet 3 (chk (fOp [1] [] gIxA (fVar 1) (fC (.int 0)))))
    (sRet (fTup (fCons [] (((([] ++ ((([] ++ (([] ++ []) ++ [])) ++ []) ++ [])) ++ (([2] ++ ([2] ++ ([] ++ ([] ++ ([] ++ []))))) ++ [2])) ++ []) ++ []) (fAli 3) (fCons [] [] (fCl gTuple (fCons [] [] (fComp [2] (iRg2 (fCons [3] ((([] ++ (([] ++ []) ++ [])) ++ []) ++ []) (fVar 3) (fCons [] [] (fOp [1] [] gAdd (fOp [1] (([] ++ []) ++ []) gIxA (fVar 1) (fOp [] [] gSub (fCl gLen (fCons [1] [] (fVar 1) fNil)) (fC (.int 1)))) (fC (.int 1))) fNil))) (gNm 2) fYes (fGet2 [0] [] [] (fVar 0) (fVar 2) (fC (.int 0)))) fNil)) fNil)))))))
def F__law_plus : FD := runF 2 0 4
    (sSeq (sSet 2 (fCl gDict (fCons [0] [] (fVar 0) fNil)))
    (sSeq (sDk 1 (sFor (iKy 1) (gNm 3) (sAsg (gSt 2 (fVar 3)) (fOp [] ([] ++ []) gAdd (fGet2 [2] [] [] (fVar 2) (fVar 3) (fC (.int 0))) (fOp [1] [] gIxA (fVar 1) (fVar 3))))))
    (sSeq (sFor (iSeq (fCl gListA (fCons [2] [] (fVar 2) fNil))) (gNm 3) (sIf (fB (fOp [2] [] gEq (fOp [2] [] gIxA (fVar 2) (fVar 3)) (fC (.int 0)))) (sDrop (fDpop 2 (fVar 3))) sNil))
    (sRet (fMov 2)))))
def F__law_times : FD := runF 2 0 5
    (sSeq (sSet 2 fDnew)
    (sSeq (sDk 0 (sFor (iKy 0) (gNm 3) (sDk 1 (sFor (iKy 1) (gNm 4) (sAsg (gSt 2 (fOp [3] [] gAdd (fVar 3) (fVar 4))) (fOp [] (([] ++ []) ++ ([] ++ [])) gAdd (fGet2 [2] ([] ++ []) [] (fVar 2) (fOp [3] [] gAdd (fVar 3) (fVar 4)) (fC (.int 0))) (fOp [0] ([] ++ []) gMul (fOp [0] [] gIxA (fVar 0) (fVar 3)) (fOp [1] [] gIxA (fVar 1) (fVar 4)))))))))
    (sSeq (sFor (iSeq (fCl gListA (fCons [2] [] (fVar 2) fNil))) (gNm 3) (sIf (fB (fOp [2] [] gEq (fOp [2] [] gIxA (fVar 2) (fVar 3)) (fC (.int 0)))) (sDrop (fDpop 2 (fVar 3))) sNil))
    (sRet (fMov 2)))))
def F__law_is_poly : FD := runF 1 0 2
    (sSeq (sIf (fOr (fNot (fTr (fIsN "tuple" (fVar 0)))) (fOr (fB (fOp [] [] gNe (fCl gLen (fCons [0] [] (fVar 0) fNil)) (fC (.int 2)))) (fNot (fTr (fIsN "tuple" (fOp [0] [] gIxA (fVar 0) (fC (.int 1)))))))) (sRet (fC (.bl false))) sNil)
    (sSeq (sFor (iSeq (fOp [] ([] ++ []) gAdd (fTup (fCons [] [] (chk (fOp [0] [] gIxA (fVar 0) (fC (.int 0)))) fNil)) (fOp [0] [] gIxA (fVar 0) (fC (.int 1))))) (gNm 1) (sIf (fOr (fNot (fTr (fIsN "int" (fVar 1)))) (fTr (fIsN "bool" (fVar 1)))) (sRet (fC (.bl false))) sNil))
    (sSeq (sIf (fB (fOp [] [] gEq (fCl gLen (fCons [0] [] (fOp [0] [] gIxA (fVar 0) (fC (.int 1))) fNil)) (fC (.int 0)))) (sRet (fOp [0] [] gEq (fOp [0] [] gIxA (fVar 0) (fC (.int 0))) (fC (.int 0)))) sNil)
    (sRet (fAndV (fOp [0] [] gNe (fOp [0] [] gIxA (fOp [0] [] gIxA (fVar 0) (fC (.int 1))) (fC (.int 0))) (fC (.int 0))) (fOp [0] [] gNe (fOp [0] ((([] ++ []) ++ []) ++ []) gIxA (fOp [0] [] gIxA (fVar 0) (fC (.int 1))) (fOp [] [] gSub (fCl gLen (fCons [0] [] (fOp [0] [] gIxA (fVar 0) (fC (.int 1))) fNil)) (fC (.int 1)))) (fC (.int 0))))))))
def F__law_drawn_poly : FD := runF 2 1 6
    (sSeq (sSet 2 fDnew)
    (sSeq (sSet 3 (fOp [] [] gSub (fCallM F__law_draw 0 (fCons [] [] (fC (.int 9)) fNil)) (fC (.int 5))))
    (sSeq (sFor (iRg1 (fCons [] [] (fCallM F__law_draw 0 (fCons [] [] (fOp [1] [] gAdd (fVar 1) (fC (.int 1))) fNil)) fNil)) (gNm 4) (sSeq (sSet 5 (fOp [] [] gSub (fCallM F__law_draw 0 (fCons [] [] (fC (.int 9)) fNil)) (fC (.int 4))))
    (sSeq (sIf (fB (fOp [] [] gEq (fCallM F__law_draw 0 (fCons [] [] (fC (.int 8)) fNil)) (fC (.int 7)))) (sSet 5 (fOp [] (([] ++ []) ++ [0]) gAdd (fOp [] ([] ++ []) gMul (fOp [] [] gSub (fCallM F__law_draw 0 (fCons [] [] (fC (.int 2001)) fNil)) (fC (.int 1000))) (fOp [] [] gPow (fC (.int 10)) (fC (.int 20)))) (fCallM F__law_draw 0 (fCons [] [] (fC (.int 99)) fNil)))) sNil)
    (sAsg (gSt 2 (fOp [3] [] gAdd (fVar 3) (fVar 4))) (fVar 5)))))
    (sRet (fCall F__law_poly (fCons [2] [] (fVar 2) fNil))))))
def F__law_divided : FD := runF 2 0 10
    (sSeq (sSet 2 (fCl gDict (fCons [0] [] (fVar 0) fNil)))
    (sSeq (sSet 3 fDnew)
    (sSeq (sSet 4 (fCl gMaxA (fCons [1] [] (fVar 1) fNil)))
    (sSeq (sFor (iRg1 (fCons [] [] (fC (.int 60)) fNil)) (gNm 5) (sSeq (sIf (fB (fOp [] [] gEq (fCl gLen (fCons [2] [] (fVar 2) fNil)) (fC (.int 0)))) (sRet (fMov 3)) sNil)
    (sSeq (sSet 6 (fCl gMaxA (fCons [2] [] (fVar 2) fNil)))
    (sSeq (sIf (fOr (fB (fOp [] (([] ++ []) ++ ([] ++ [])) gLt (fOp [6] [] gSub (fVar 6) (fVar 4)) (fOp [] ([] ++ []) gSub (fCl gMinA (fCons [0] [] (fVar 0) fNil)) (fCl gMinA (fCons [1] [] (fVar 1) fNil))))) (fB (fOp [] [] gNe (fOp [] ([] ++ []) gMod (fCl gInt (fCons [2] [] (fOp [2] [] gIxA (fVar 2) (fVar 6)) fNil)) (fOp [1] [] gIxA (fVar 1) (fVar 4))) (fC (.int 0))))) (sRet (fC .non)) sNil)
    (sSeq (sSet 7 (fOp [2] ([] ++ []) gDiv (fOp [2] [] gIxA (fVar 2) (fVar 6)) (fOp [1] [] gIxA (fVar 1) (fVar 4))))
    (sSeq (sAsg (gSt 3 (fOp [6] [] gSub (fVar 6) (fVar 4))) (fVar 7))
    (sSeq (sSet 8 fDnew)
    (sSeq (sDk 1 (sFor (iKy 1) (gNm 9) (sAsg (gSt 8 (fOp [] [] gSub (fOp [9] [] gAdd (fVar 9) (fVar 6)) (fVar 4))) (fOp [] ([] ++ ([] ++ [])) gSub (fC (.int 0)) (fOp [7] ([] ++ []) gMul (fVar 7) (fOp [1] [] gIxA (fVar 1) (fVar 9)))))))
    (sSet 2 (fCall F__law_plus (fCons [2] ([] ++ []) (fVar 2) (fCons [8] [] (fVar 8) fNil))))))))))))
    (sRet (fC .non))))))
def F_law : FD := runF 1 0 22
    (sSeq (sSet 1 (fCall F__law_state (fCons [0] [] (fVar 0) fNil)))
    (sSeq (sSet 2 (fCallM F__law_drawn_poly 1 (fCons [] [] (fC (.int 6)) fNil)))
    (sSeq (sSet 3 (fCallM F__law_drawn_poly 1 (fCons [] [] (fC (.int 5)) fNil)))
    (sSeq (sIf (fB (fOp [3] ([] ++ ([] ++ [])) gEq (fVar 3) (fTup (fCons [] ([] ++ []) (fC (.int 0)) (fCons [] [] (fTup fNil) fNil))))) (sSet 3 (fTup (fCons [] (([] ++ ([] ++ ([] ++ []))) ++ []) (fOp [] (([] ++ []) ++ [1]) gAdd (fC (.int 1)) (fCallM F__law_draw 1 (fCons [] [] (fC (.int 3)) fNil))) (fCons [] [] (fTup (fCons [] ([] ++ ([] ++ [])) (fC (.int 3)) (fCons [] ([] ++ []) (fC (.int 0)) (fCons [] [] (fUn gNeg (fC (.int 2))) fNil)))) fNil)))) sNil)
    (sSeq (sSet 4 (fCall F__law_terms (fCons [2] [] (fVar 2) fNil)))
    (sSeq (sSet 5 (fCall F__law_terms (fCons [3] [] (fVar 3) fNil)))
    (sSeq (sSet 6 (fCall F__law_poly (fCons [] [] (fCall F__law_times (fCons [4] ([] ++ []) (fVar 4) (fCons [5] [] (fVar 5) fNil))) fNil)))
    (sSeq (sIf (fOr (fB (fOp [] [] gNe (fCall F_quotient (fCons [6] ([] ++ []) (fVar 6) (fCons [3] [] (fVar 3) fNil))) (fVar 2))) (fNot (fTr (fCall F__law_is_poly (fCons [] [] (fCall F_quotient (fCons [6] ([] ++ []) (fVar 6) (fCons [3] [] (fVar 3) fNil))) fNil))))) (sRet (fC (.bl false))) sNil)
    (sSeq (sSet 7 (fCl gDict (fCons [] [] (fCall F__law_terms (fCons [6] [] (fVar 6) fNil)) fNil)))
    (sSeq (sSet 8 (fOp [] [] gSub (fCallM F__law_draw 1 (fCons [] [] (fC (.int 9)) fNil)) (fC (.int 4))))
    (sSeq (sAsg (gSt 7 (fVar 8)) (fOp [] (([] ++ []) ++ [1]) gAdd (fOp [] [] gAdd (fGet2 [7] [] [] (fVar 7) (fVar 8) (fC (.int 0))) (fC (.int 1))) (fCallM F__law_draw 1 (fCons [] [] (fC (.int 3)) fNil))))
    (sSeq (sFor (iSeq (fLst (fCons [] ([2] ++ []) (fCall F__law_poly (fCons [7] [] (fVar 7) fNil)) (fCons [] [] (fAli 2) fNil)))) (gNm 9) (sSeq (sSet 10 (fCall F__law_terms (fCons [9] [] (fVar 9) fNil)))
    (sSeq (sSet 11 fDnew)
    (sSeq (sIf (fB (fOp [] [] gGt (fCl gLen (fCons [10] [] (fVar 10) fNil)) (fC (.int 0)))) (sSet 11 (fCall F__law_divided (fCons [10] ([] ++ []) (fVar 10) (fCons [5] [] (fVar 5) fNil)))) sNil)
    (sSeq (sSet 12 (fCall F_quotient (fCons [9] ([] ++ []) (fVar 9) (fCons [3] [] (fVar 3) fNil))))
    (sIf (fB (fOp [11] [] gIsN (fVar 11) (fC .non))) (sIf (fB (fOp [12] [] gNotN (fVar 12) (fC .non))) (sRet (fC (.bl false))) sNil) (sIf (fOr (fB (fOp [12] ([] ++ []) gNe (fVar 12) (fCall F__law_poly (fCons [11] [] (fVar 11) fNil)))) (fB (fOp [] [] gNe (fCall F_times (fCons [12] ([] ++ []) (fVar 12) (fCons [3] [] (fVar 3) fNil))) (fVar 9)))) (sRet (fC (.bl false))) sNil)))))))
    (sSeq (sSet 13 (fCall F_unit_free (fCons [2] [] (fVar 2) fNil)))
    (sSeq (sIf (fB (fOp [2] ([] ++ ([] ++ [])) gEq (fVar 2) (fTup (fCons [] ([] ++ []) (fC (.int 0)) (fCons [] [] (fTup fNil) fNil))))) (sIf (fB (fOp [13] [] gNe (fVar 13) (fVar 2))) (sRet (fC (.bl false))) sNil) (sSeq (sSet 14 (fOp [] ([] ++ (((([] ++ []) ++ []) ++ []) ++ [])) gSub (fC (.int 1)) (fOp [] (((([] ++ []) ++ []) ++ []) ++ []) gMul (fC (.int 2)) (fCl gInt (fCons [] [] (fOp [2] [] gLt (fOp [2] [] gIxA (fOp [2] [] gIxA (fVar 2) (fC (.int 1))) (fC (.int 0))) (fC (.int 0))) fNil)))))
    (sIf (fB (fOp [13] ([] ++ (((([] ++ []) ++ (([15] ++ ([15] ++ ([] ++ ([] ++ [])))) ++ [15])) ++ []) ++ [])) gNe (fVar 13) (fTup (fCons [] (((([] ++ []) ++ (([15] ++ ([15] ++ ([] ++ ([] ++ [])))) ++ [15])) ++ []) ++ []) (fC (.int 0)) (fCons [] [] (fCl gTuple (fCons [] [] (fComp [15] (iSeq (fOp [2] [] gIxA (fVar 2) (fC (.int 1)))) (gNm 15) fYes (fOp [14] [] gMul (fVar 14) (fVar 15))) fNil)) fNil))))) (sRet (fC (.bl false))) sNil)))
    (sSeq (sSet 16 (chk (fOp [] (([] ++ []) ++ [1]) gIxA (fLst (fCons [] ([] ++ ([] ++ ([] ++ ([] ++ ([] ++ []))))) (fC (.int 1)) (fCons [] ([] ++ ([] ++ ([] ++ ([] ++ [])))) (fC (.int 2)) (fCons [] ([] ++ ([] ++ ([] ++ []))) (fC (.int 3)) (fCons [] ([] ++ ([] ++ [])) (fUn gNeg (fC (.int 1))) (fCons [] ([] ++ []) (fUn gNeg (fC (.int 2))) (fCons [] [] (fUn gNeg (fC (.int 4))) fNil))))))) (fCallM F__law_draw 1 (fCons [] [] (fC (.int 6)) fNil)))))
    (sSeq (sSet 17 fDnew)
    (sSeq (sDk 4 (sFor (iKy 4) (gNm 8) (sAsg (gSt 17 (fOp [8] [] gMul (fVar 8) (fVar 16))) (fOp [4] [] gIxA (fVar 4) (fVar 8)))))
    (sSeq (sIf (fB (fOp [] ([] ++ []) gNe (fCall F_spread (fCons [2] ([] ++ []) (fVar 2) (fCons [16] [] (fVar 16) fNil))) (fCall F__law_poly (fCons [17] [] (fVar 17) fNil)))) (sRet (fC (.bl false))) sNil)
    (sSeq (sSet 18 (fTup (fCons [] (([] ++ []) ++ []) (fOp [] (([] ++ ([] ++ ([] ++ []))) ++ []) gMul (fCl gAbs (fCons [2] [] (fOp [2] [] gIxA (fVar 2) (fC (.int 0))) fNil)) (fCl gInt (fCons [] [] (fOp [2] ([] ++ ([] ++ [])) gNe (fVar 2) (fTup (fCons [] ([] ++ []) (fC (.int 0)) (fCons [] [] (fTup fNil) fNil)))) fNil))) (fCons [] [] (chk (fOp [2] [] gIxA (fVar 2) (fC (.int 1)))) fNil))))
    (sSeq (sSet 11 fDnew)
    (sSeq (sFor (iRg1 (fCons [] [] (fCl gLen (fCons [18] [] (fOp [18] [] gIxA (fVar 18) (fC (.int 1))) fNil)) fNil)) (gNm 8) (sSeq (sSet 19 (fDisp (((fC (.int 0)), (chk (fOp [18] [] gIxA (fOp [18] [] gIxA (fVar 18) (fC (.int 1))) (fVar 8)))) :: [])))
    (sSeq (sFor (iRg1 (fCons [] [] (fOp [18] [] gAdd (fOp [18] [] gIxA (fVar 18) (fC (.int 0))) (fVar 8)) fNil)) (gNm 20) (sSet 19 (fCall F__law_times (fCons [19] ([] ++ []) (fVar 19) (fCons [5] [] (fVar 5) fNil)))))
    (sSet 11 (fCall F__law_plus (fCons [11] ([] ++ []) (fVar 11) (fCons [19] [] (fVar 19) fNil)))))))
    (sSeq (sIf (fB (fOp [] ([] ++ []) gNe (fCall F_composed (fCons [18] ([] ++ []) (fVar 18) (fCons [3] [] (fVar 3) fNil))) (fCall F__law_poly (fCons [11] [] (fVar 11) fNil)))) (sRet (fC (.bl false))) sNil)
    (sSeq (sFor (iSeq (fLst (fCons [] ([] ++ []) (fC (.int 1)) (fCons [] [] (fUn gNeg (fC (.int 1))) fNil)))) (gNm 15) (sSeq (sSet 21 (fC (.int 0)))
    (sSeq (sDk 4 (sFor (iKy 4) (gNm 8) (sSet 21 (fOp [21] (([] ++ []) ++ (([] ++ ([15] ++ [])) ++ (([] ++ []) ++ []))) gAdd (fVar 21) (fOp [4] (([] ++ ([15] ++ [])) ++ (([] ++ []) ++ [])) gMul (fOp [4] [] gIxA (fVar 4) (fVar 8)) (fOp [] (([] ++ []) ++ []) gIxA (fLst (fCons [] ([15] ++ []) (fC (.int 1)) (fCons [] [] (fAli 15) fNil))) (fOp [] [] gMod (fCl gInt (fCons [8] [] (fVar 8) fNil)) (fC (.int 2)))))))))
    (sIf (fB (fOp [] [] gNe (fCall F_value_at (fCons [2] ([] ++ []) (fVar 2) (fCons [15] [] (fVar 15) fNil))) (fVar 21))) (sRet (fC (.bl false))) sNil))))
    (sRet (fCall F__law_truth (fCons [] ((([] ++ []) ++ ([] ++ [])) ++ []) (fCall F_is_palindrome (fCons [2] [] (fVar 2) fNil)) (fCons [] [] (fOp [2] ([] ++ []) gEq (fOp [2] [] gIxA (fVar 2) (fC (.int 1))) (fRevS (fOp [2] [] gIxA (fVar 2) (fC (.int 1))))) fNil)))))))))))))))))))))))))))
section
variable {P : Program} {w : World} {K : PySem.W.Frag} {mg : Str → Option Value} {base : Heap}
theorem ok_normal {a : Addr} {fd : FuncData} (F : Fun K "normal" "normal" sf_normal a fd) (z_len : mg "len" = none) (z_tuple : mg "tuple" = none) {u_ZERO : Value} (gm_ZERO : mg "ZERO" = some u_ZERO) (gd_ZERO : GD K u_ZERO c_ZERO) : FnV P w K mg base 1 a fd ["least", "numbers"] 0 F_normal := by
  refine' fnv F sc_normal (by decide) ?hw fun cdv A outer s H E hr => ?hb
  case hb =>
    have nd := sc_normal.nd
    have u1 := Nat.lt_of_le_of_lt (Nat.add_le_add_left (show 1 ≤ 16 * 0 + 200 by decide) _) hr.un
    have u64 := Nat.lt_of_le_of_lt (Nat.add_le_add_left (show 64 ≤ 16 * 0 + 200 by decide) _) hr.un
    have u65 := Nat.lt_of_le_of_lt (Nat.add_le_add_left (show 65 ≤ 16 * 0 + 200 by decide) _) hr.un
    exact (pssv_cons (psv_set 2 nd pev_int)
    (pssv_cons (psv_while PassesOwn.never (ptv_w (pwv_and (ptv_cmp op_lt os_B (pev_var 2) (pev_callB call_lenV cs_len (by rfl) z_len (by rfl) (pav_cons (pev_var 1) (pav_nil (x := false)))) (nomark _)) (pwv_and1 (ptv_cmp (op_eqD u64) os_eq (pev_ixA u1 (pev_var 1) (pev_var 2)) pev_int (nomark _))))) (pssv_one (psv_aug 2 nd ip_add os_ipI pev_int)))
    (pssv_cons (psv_set 3 nd (pev_callB call_lenV cs_len (by rfl) z_len (by rfl) (pav_cons (pev_var 1) (pav_nil (x := false)))))
    (pssv_cons (psv_while PassesOwn.never (ptv_w (pwv_and (ptv_cmp op_gt os_B (pev_var 3) (pev_var 2) (nomark _)) (pwv_and1 (ptv_cmp (op_eqD u64) os_eq (pev_ixA u1 (pev_var 1) (pev_op op_sub os_I (pev_var 3) pev_int)) pev_int (nomark _))))) (pssv_one (psv_aug 3 nd ip_sub os_ipI pev_int)))
    (pssv_cons (psv_if (ptv_cmp (op_eqD u64) os_eq (pev_var 2) (pev_var 3) (nomark _)) (pssv_one (psv_ret (pev_glob (by rfl) gm_ZERO gd_ZERO))) pssv_nil)
    (pssv_one (psv_ret (pev_tup (pav_consX (pev_op op_addV os_add (pev_var 0) (pev_var 2)) (pav_consX (pev_callTy call_tuple_of cs_tuple (by rfl) z_tuple (by rfl) (pav_cons (pev_slice (pev_var 1) (pov_some (pev_var 2)) (pov_some (pev_var 3))) (pav_nil (x := false)))) (pav_nil (x := true))))))))))))
  case hw => decide
theorem ok_single {a : Addr} {fd : FuncData} (F : Fun K "single" "single" sf_single a fd) {a_normal : Addr} {fd_normal : FuncData} (G_normal : FnV P w K mg base 1 a_normal fd_normal ["least", "numbers"] 0 F_normal) (bi_normal : Binds K fd_normal ["least", "numbers"] []) (gm_normal : mg "normal" = some (.ref a_normal)) (kp_normal : PySem.W.keepIn K (.ref a_normal) = true) : FnV P w K mg base 2 a fd ["number", "exponent"] 0 F_single := by
  refine' fnv F sc_single (by decide) ?hw fun cdv A outer s H E hr => ?hb
  case hb =>
    have nd := sc_single.nd
    have u1 := Nat.lt_of_le_of_lt (Nat.add_le_add_left (show 1 ≤ 16 * 1 + 200 by decide) _) hr.un
    have u64 := Nat.lt_of_le_of_lt (Nat.add_le_add_left (show 64 ≤ 16 * 1 + 200 by decide) _) hr.un
    have u65 := Nat.lt_of_le_of_lt (Nat.add_le_add_left (show 65 ≤ 16 * 1 + 200 by decide) _) hr.un
    exact (pssv_one (psv_ret (pev_call G_normal runF_ok (hr.mono (by decide)) (by rfl) gm_normal kp_normal bi_normal (pav_cons (pev_var 1) (pav_cons (pev_tup (pav_consX (pev_ali 0) (pav_nil (x := true)))) (pav_nil (x := false)))))))
  case hw => decide
theorem ok_coefficient {a : Addr} {fd : FuncData} (F : Fun K "coefficient" "coefficient" sf_coefficient a fd) (z_len : mg "len" = none) : FnV P w K mg base 1 a fd ["one", "exponent"] 0 F_coefficient := by
  refine' fnv F sc_coefficient (by decide) ?hw fun cdv A outer s H E hr => ?hb
  case hb =>
    have nd := sc_coefficient.nd
    have u1 := Nat.lt_of_le_of_lt (Nat.add_le_add_left (show 1 ≤ 16 * 0 + 200 by decide) _) hr.un
    have u64 := Nat.lt_of_le_of_lt (Nat.add_le_add_left (show 64 ≤ 16 * 0 + 200 by decide) _) hr.un
    have u65 := Nat.lt_of_le_of_lt (Nat.add_le_add_left (show 65 ≤ 16 * 0 + 200 by decide) _) hr.un
    exact (pssv_cons (psv_set 2 nd (pev_op op_sub os_I (pev_var 1) (pev_ixA u1 (pev_var 0) pev_int)))
    (pssv_one (psv_ret (pev_if (ptv_chain op_le os_B op_lt os_B pev_int (pev_var 2) (pev_callB call_lenV cs_len (by rfl) z_len (by rfl) (pav_cons (pev_ixA u1 (pev_var 0) pev_int) (pav_nil (x := false))))) (pev_chk (pev_ixA u1 (pev_ixA u1 (pev_var 0) pev_int) (pev_var 2))) pev_int))))
  case hw => decide
theorem ok_plus {a : Addr} {fd : FuncData} (F : Fun K "plus" "plus" sf_plus a fd) (z_len : mg "len" = none) (z_max : mg "max" = none) (z_min : mg "min" = none) (z_range : mg "range" = none) {u_ZERO : Value} (gm_ZERO : mg "ZERO" = some u_ZERO) (gd_ZERO : GD K u_ZERO c_ZERO) {a_normal : Addr} {fd_normal : FuncData} (G_normal : FnV P w K mg base 1 a_normal fd_normal ["least", "numbers"] 0 F_normal) (bi_normal : Binds K fd_normal ["least", "numbers"] []) (gm_normal : mg "normal" = some (.ref a_normal)) (kp_normal : PySem.W.keepIn K (.ref a_normal) = true) {a_coefficient : Addr} {fd_coefficient : FuncData} (G_coefficient : FnV P w K mg base 1 a_coefficient fd_coefficient ["one", "exponent"] 0 F_coefficient) (bi_coefficient : Binds K fd_coefficient ["one", "exponent"] []) (gm_coefficient : mg "coefficient" = some (.ref a_coefficient)) (kp_coefficient : PySem.W.keepIn K (.ref a_coefficient) = true) : FnV P w K mg base 2 a fd ["one", "other"] 0 F_plus := by
  refine' fnv F sc_plus (by decide) ?hw fun cdv A outer s H E hr => ?hb
  case hb =>
    have nd := sc_plus.nd
    have u1 := Nat.lt_of_le_of_lt (Nat.add_le_add_left (show 1 ≤ 16 * 1 + 200 by decide) _) hr.un
    have u64 := Nat.lt_of_le_of_lt (Nat.add_le_add_left (show 64 ≤ 16 * 1 + 200 by decide) _) hr.un
    have u65 := Nat.lt_of_le_of_lt (Nat.add_le_add_left (show 65 ≤ 16 * 1 + 200 by decide) _) hr.un
    exact (pssv_cons (psv_if (ptv_w (pwv_or (ptv_cmp (op_eqD u64) os_eq (pev_var 0) (pev_glob (by rfl) gm_ZERO gd_ZERO) (nomark _)) (pwv_or1 (ptv_cmp (op_eqD u64) os_eq (pev_var 1) (pev_glob (by rfl) gm_ZERO gd_ZERO) (nomark _))))) (pssv_one (psv_ret (pev_if (ptv_cmp (op_eqD u64) os_eq (pev_var 0) (pev_glob (by rfl) gm_ZERO gd_ZERO) (nomark _)) (pev_ali 1) (pev_ali 0)))) pssv_nil)
    (pssv_cons (psv_set 2 nd (pev_callB (call_minA rfl) cs_minA (by rfl) z_min (by rfl) (pav_cons (pev_ixA u1 (pev_var 0) pev_int) (pav_cons (pev_ixA u1 (pev_var 1) pev_int) (pav_nil (x := false))))))
    (pssv_cons (psv_set 3 nd (pev_callB (call_maxA rfl) cs_maxA (by rfl) z_max (by rfl) (pav_cons (pev_op op_addV os_add (pev_ixA u1 (pev_var 0) pev_int) (pev_callB call_lenV cs_len (by rfl) z_len (by rfl) (pav_cons (pev_ixA u1 (pev_var 0) pev_int) (pav_nil (x := false))))) (pav_cons (pev_op op_addV os_add (pev_ixA u1 (pev_var 1) pev_int) (pev_callB call_lenV cs_len (by rfl) z_len (by rfl) (pav_cons (pev_ixA u1 (pev_var 1) pev_int) (pav_nil (x := false))))) (pav_nil (x := false))))))
    (pssv_one (psv_ret (pev_call G_normal runF_ok (hr.mono (by decide)) (by rfl) gm_normal kp_normal bi_normal (pav_cons (pev_var 2) (pav_cons (pev_lcV (own := [("place", 4)]) [4] rfl nd (piv_range2 (by rfl) z_range (pav_cons (pev_var 2) (pav_cons (pev_var 3) (pav_nil (x := false))))) (blkOk_by (own := [("place", 4)]) (N := N_plus) (sc := defScope sf_plus) (by decide +kernel)) (fun _ _ _ _ _ => (pgv_name 4 nd)) (fun _ _ _ _ _ => ptsv_nil) (fun _ _ _ _ _ => (pev_op op_addV os_add (pev_call G_coefficient runF_ok (hr.mono (by decide)) (by rfl) gm_coefficient kp_coefficient bi_coefficient (pav_cons (pev_var 0) (pav_cons (pev_var 4) (pav_nil (x := false))))) (pev_call G_coefficient runF_ok (hr.mono (by decide)) (by rfl) gm_coefficient kp_coefficient bi_coefficient (pav_cons (pev_var 1) (pav_cons (pev_var 4) (pav_nil (x := false)))))))) (pav_nil (x := false))))))))))
  case hw => decide
theorem ok_times {a : Addr} {fd : FuncData} (F : Fun K "times" "times" sf_times a fd) (z_enumerate : mg "enumerate" = none) (z_len : mg "len" = none) {u_ZERO : Value} (gm_ZERO : mg "ZERO" = some u_ZERO) (gd_ZERO : GD K u_ZERO c_ZERO) {a_normal : Addr} {fd_normal : FuncData} (G_normal : FnV P w K mg base 1 a_normal fd_normal ["least", "numbers"] 0 F_normal) (bi_normal : Binds K fd_normal ["least", "numbers"] []) (gm_normal : mg "normal" = some (.ref a_normal)) (kp_normal : PySem.W.keepIn K (.ref a_normal) = true) : FnV P w K mg base 2 a fd ["one", "other"] 0 F_times := by
  refine' fnv F sc_times (by decide) ?hw fun cdv A outer s H E hr => ?hb
  case hb =>
    have nd := sc_times.nd
    have u1 := Nat.lt_of_le_of_lt (Nat.add_le_add_left (show 1 ≤ 16 * 1 + 200 by decide) _) hr.un
    have u64 := Nat.lt_of_le_of_lt (Nat.add_le_add_left (show 64 ≤ 16 * 1 + 200 by decide) _) hr.un
    have u65 := Nat.lt_of_le_of_lt (Nat.add_le_add_left (show 65 ≤ 16 * 1 + 200 by decide) _) hr.un
    exact (pssv_cons (psv_if (ptv_w (pwv_or (ptv_cmp (op_eqD u64) os_eq (pev_var 0) (pev_glob (by rfl) gm_ZERO gd_ZERO) (nomark _)) (pwv_or1 (ptv_cmp (op_eqD u64) os_eq (pev_var 1) (pev_glob (by rfl) gm_ZERO gd_ZERO) (nomark _))))) (pssv_one (psv_ret (pev_glob (by rfl) gm_ZERO gd_ZERO))) pssv_nil)
    (pssv_cons (psv_set 2 nd (pev_op op_mulA os_mul (pev_lst (pav_consX pev_int (pav_nil (x := true)))) (pev_op op_sub os_I (pev_op op_addV os_add (pev_callB call_lenV cs_len (by rfl) z_len (by rfl) (pav_cons (pev_ixA u1 (pev_var 0) pev_int) (pav_nil (x := false)))) (pev_callB call_lenV cs_len (by rfl) z_len (by rfl) (pav_cons (pev_ixA u1 (pev_var 1) pev_int) (pav_nil (x := false))))) pev_int)))
    (pssv_cons (psv_for PassesOwn.never rfl (piv_enum (by rfl) z_enumerate (pev_ixA u1 (pev_var 0) pev_int)) (pgv_tup rfl (pgsv_cons (pgv_name 3 nd) (pgsv_cons (pgv_name 4 nd) pgsv_nil))) (pssv_one (psv_for PassesOwn.never rfl (piv_enum (by rfl) z_enumerate (pev_ixA u1 (pev_var 1) pev_int)) (pgv_tup rfl (pgsv_cons (pgv_name 5 nd) (pgsv_cons (pgv_name 6 nd) pgsv_nil))) (pssv_one (psv_augS 2 u1 ip_add os_ipI (pev_op op_addV os_add (pev_var 3) (pev_var 5)) (pev_op op_mulA os_mul (pev_var 4) (pev_var 6)))))))
    (pssv_one (psv_ret (pev_call G_normal runF_ok (hr.mono (by decide)) (by rfl) gm_normal kp_normal bi_normal (pav_cons (pev_op op_addV os_add (pev_ixA u1 (pev_var 0) pev_int) (pev_ixA u1 (pev_var 1) pev_int)) (pav_cons (pev_var 2) (pav_nil (x := false))))))))))
  case hw => decide
theorem ok_from_terms {a : Addr} {fd : FuncData} (F : Fun K "from_terms" "from_terms" sf_from_terms a fd) (z_max : mg "max" = none) (z_min : mg "min" = none) (z_range : mg "range" = none) {u_ZERO : Value} (gm_ZERO : mg "ZERO" = some u_ZERO) (gd_ZERO : GD K u_ZERO c_ZERO) {a_normal : Addr} {fd_normal : FuncData} (G_normal : FnV P w K mg base 1 a_normal fd_normal ["least", "numbers"] 0 F_normal) (bi_normal : Binds K fd_normal ["least", "numbers"] []) (gm_normal : mg "normal" = some (.ref a_normal)) (kp_normal : PySem.W.keepIn K (.ref a_normal) = true) : FnV P w K mg base 2 a fd ["terms"] 0 F_from_terms := by
  refine' fnv F sc_from_terms (by decide) ?hw fun cdv A outer s H E hr => ?hb
  case hb =>
    have nd := sc_from_terms.nd
    have u1 := Nat.lt_of_le_of_lt (Nat.add_le_add_left (show 1 ≤ 16 * 1 + 200 by decide) _) hr.un
    have u64 := Nat.lt_of_le_of_lt (Nat.add_le_add_left (show 64 ≤ 16 * 1 + 200 by decide) _) hr.un
    have u65 := Nat.lt_of_le_of_lt (Nat.add_le_add_left (show 65 ≤ 16 * 1 + 200 by decide) _) hr.un
    exact (pssv_cons (psv_if (ptv_cmp (op_eqZ u64) os_eqZ (pev_var 0) pev_dnew (nomark _)) (pssv_one (psv_ret (pev_glob (by rfl) gm_ZERO gd_ZERO))) pssv_nil)
    (pssv_cons (psv_set 1 nd (pev_callB (call_minA rfl) cs_minA (by rfl) z_min (by rfl) (pav_cons (pev_var 0) (pav_nil (x := false)))))
    (pssv_one (psv_ret (pev_call G_normal runF_ok (hr.mono (by decide)) (by rfl) gm_normal kp_normal bi_normal (pav_cons (pev_var 1) (pav_cons (pev_lcV (own := [("place", 2)]) [2] rfl nd (piv_range2 (by rfl) z_range (pav_cons (pev_var 1) (pav_cons (pev_op op_addV os_add (pev_callB (call_maxA rfl) cs_maxA (by rfl) z_max (by rfl) (pav_cons (pev_var 0) (pav_nil (x := false)))) pev_int) (pav_nil (x := false))))) (blkOk_by (own := [("place", 2)]) (N := N_from_terms) (sc := defScope sf_from_terms) (by decide +kernel)) (fun _ _ _ _ _ => (pgv_name 2 nd)) (fun _ _ _ _ _ => ptsv_nil) (fun _ _ _ _ _ => (pev_get2 u1 (pev_var 0) (pev_var 2) pev_int))) (pav_nil (x := false)))))))))
  case hw => decide
theorem ok_spread {a : Addr} {fd : FuncData} (F : Fun K "spread" "spread" sf_spread a fd) (z_enumerate : mg "enumerate" = none) {a_from_terms : Addr} {fd_from_terms : FuncData} (G_from_terms : FnV P w K mg base 2 a_from_terms fd_from_terms ["terms"] 0 F_from_terms) (bi_from_terms : Binds K fd_from_terms ["terms"] []) (gm_from_terms : mg "from_terms" = some (.ref a_from_terms)) (kp_from_terms : PySem.W.keepIn K (.ref a_from_terms) = true) : FnV P w K mg base 3 a fd ["one", "step"] 0 F_spread := by
  refine' fnv F sc_spread (by decide) ?hw fun cdv A outer s H E hr => ?hb
  case hb =>
    have nd := sc_spread.nd
    have u1 := Nat.lt_of_le_of_lt (Nat.add_le_add_left (show 1 ≤ 16 * 2 + 200 by decide) _) hr.un
    have u64 := Nat.lt_of_le_of_lt (Nat.add_le_add_left (show 64 ≤ 16 * 2 + 200 by decide) _) hr.un
    have u65 := Nat.lt_of_le_of_lt (Nat.add_le_add_left (show 65 ≤ 16 * 2 + 200 by decide) _) hr.un
    exact (pssv_cons (psv_set 2 nd pev_dnew)
    (pssv_cons (psv_for PassesOwn.never rfl (piv_enum (by rfl) z_enumerate (pev_ixA u1 (pev_var 0) pev_int)) (pgv_tup rfl (pgsv_cons (pgv_name 3 nd) (pgsv_cons (pgv_name 4 nd) pgsv_nil))) (pssv_one (psv_asg (pev_var 4) (pgv_sub 2 u1 (pev_op op_mulA os_mul (pev_op op_addV os_add (pev_ixA u1 (pev_var 0) pev_int) (pev_var 3)) (pev_var 1))))))
    (pssv_one (psv_ret (pev_call G_from_terms runF_ok (hr.mono (by decide)) (by rfl) gm_from_terms kp_from_terms bi_from_terms (pav_cons (pev_var 2) (pav_nil (x := false))))))))
  case hw => decide
theorem ok_quotient {a : Addr} {fd : FuncData} (F : Fun K "quotient" "quotient" sf_quotient a fd) (z_any : mg "any" = none) (z_enumerate : mg "enumerate" = none) (z_len : mg "len" = none) (z_list : mg "list" = none) (z_range : mg "range" = none) {u_ZERO : Value} (gm_ZERO : mg "ZERO" = some u_ZERO) (gd_ZERO : GD K u_ZERO c_ZERO) {a_normal : Addr} {fd_normal : FuncData} (G_normal : FnV P w K mg base 1 a_normal fd_normal ["least", "numbers"] 0 F_normal) (bi_normal : Binds K fd_normal ["least", "numbers"] []) (gm_normal : mg "normal" = some (.ref a_normal)) (kp_normal : PySem.W.keepIn K (.ref a_normal) = true) : FnV P w K mg base 2 a fd ["one", "other"] 0 F_quotient := by
  refine' fnv F sc_quotient (by decide) ?hw fun cdv A outer s H E hr => ?hb
  case hb =>
    have nd := sc_quotient.nd
    have u1 := Nat.lt_of_le_of_lt (Nat.add_le_add_left (show 1 ≤ 16 * 1 + 200 by decide) _) hr.un
    have u64 := Nat.lt_of_le_of_lt (Nat.add_le_add_left (show 64 ≤ 16 * 1 + 200 by decide) _) hr.un
    have u65 := Nat.lt_of_le_of_lt (Nat.add_le_add_left (show 65 ≤ 16 * 1 + 200 by decide) _) hr.un
    exact (pssv_cons (psv_if (ptv_cmp (op_eqD u64) os_eq (pev_var 0) (pev_glob (by rfl) gm_ZERO gd_ZERO) (nomark _)) (pssv_one (psv_ret (pev_glob (by rfl) gm_ZERO gd_ZERO))) pssv_nil)
    (pssv_cons (psv_set 2 nd (pev_callTy (call_listA rfl) cs_listA (by rfl) z_list (by rfl) (pav_cons (pev_ixA u1 (pev_var 0) pev_int) (pav_nil (x := false)))))
    (pssv_cons (psv_set 3 nd (pev_lst (pav_nil (x := true))))
    (pssv_cons (psv_set 4 nd (pev_chk (pev_ixA u1 (pev_ixA u1 (pev_var 1) pev_int) (pev_un un_neg us_neg pev_int))))
    (pssv_cons (psv_for PassesOwn.never rfl (piv_range3 (by rfl) z_range (pav_cons (pev_op op_sub os_I (pev_callB call_lenV cs_len (by rfl) z_len (by rfl) (pav_cons (pev_var 2) (pav_nil (x := false)))) (pev_callB call_lenV cs_len (by rfl) z_len (by rfl) (pav_cons (pev_ixA u1 (pev_var 1) pev_int) (pav_nil (x := false))))) (pav_cons (pev_un un_neg us_neg pev_int) (pav_cons (pev_un un_neg us_neg pev_int) (pav_nil (x := false)))))) (pgv_name 5 nd) (pssv_cons (psv_set 6 nd (pev_chk (pev_ixA u1 (pev_var 2) (pev_op op_sub os_I (pev_op op_addV os_add (pev_var 5) (pev_callB call_lenV cs_len (by rfl) z_len (by rfl) (pav_cons (pev_ixA u1 (pev_var 1) pev_int) (pav_nil (x := false))))) pev_int))))
    (pssv_cons (psv_if (ptv_cmp (op_neD u64) os_ne (pev_op op_modN os_mod (pev_var 6) (pev_var 4)) pev_int (nomark _)) (pssv_one (psv_ret pev_non)) pssv_nil)
    (pssv_cons (psv_expr (pev_bm 3 PySem.F.plainAttrs_list PySem.F.slot_list_append PySem.F.type_list_append mt_append mu_append (pav_consX (pev_op op_fdivL os_div (pev_var 6) (pev_var 4)) (pav_nil (x := true)))))
    (pssv_one (psv_for PassesOwn.never rfl (piv_enum (by rfl) z_enumerate (pev_ixA u1 (pev_var 1) pev_int)) (pgv_tup rfl (pgsv_cons (pgv_name 7 nd) (pgsv_cons (pgv_name 8 nd) pgsv_nil))) (pssv_one (psv_augS 2 u1 ip_sub os_ipI (pev_op op_addV os_add (pev_var 5) (pev_var 7)) (pev_op op_mulA os_mul (pev_ixA u1 (pev_var 3) (pev_un un_neg us_neg pev_int)) (pev_var 8))))))))))
    (pssv_cons (psv_if (ptv_tr (pev_callB (cr_any rfl) cs_any (by rfl) z_any (by rfl) (pav_cons (pev_lcV (own := [("number", 6)]) [6] rfl nd (piv_seq (pev_var 2)) (blkOk_by (own := [("number", 6)]) (N := N_quotient) (sc := defScope sf_quotient) (by decide +kernel)) (fun _ _ _ _ _ => (pgv_name 6 nd)) (fun _ _ _ _ _ => ptsv_nil) (fun _ _ _ _ _ => (pev_cmp (op_neD u64) os_ne (pev_var 6) pev_int (nomark _)))) (pav_nil (x := false))))) (pssv_one (psv_ret pev_non)) pssv_nil)
    (pssv_one (psv_ret (pev_call G_normal runF_ok (hr.mono (by decide)) (by rfl) gm_normal kp_normal bi_normal (pav_cons (pev_op op_sub os_I (pev_ixA u1 (pev_var 0) pev_int) (pev_ixA u1 (pev_var 1) pev_int)) (pav_cons (pev_revS (pev_var 3)) (pav_nil (x := false)))))))))))))
  case hw => decide
theorem ok_unit_free {a : Addr} {fd : FuncData} (F : Fun K "unit_free" "unit_free" sf_unit_free a fd) (z_tuple : mg "tuple" = none) {u_ZERO : Value} (gm_ZERO : mg "ZERO" = some u_ZERO) (gd_ZERO : GD K u_ZERO c_ZERO) : FnV P w K mg base 1 a fd ["one"] 0 F_unit_free := by
  refine' fnv F sc_unit_free (by decide) ?hw fun cdv A outer s H E hr => ?hb
  case hb =>
    have nd := sc_unit_free.nd
    have u1 := Nat.lt_of_le_of_lt (Nat.add_le_add_left (show 1 ≤ 16 * 0 + 200 by decide) _) hr.un
    have u64 := Nat.lt_of_le_of_lt (Nat.add_le_add_left (show 64 ≤ 16 * 0 + 200 by decide) _) hr.un
    have u65 := Nat.lt_of_le_of_lt (Nat.add_le_add_left (show 65 ≤ 16 * 0 + 200 by decide) _) hr.un
    exact (pssv_cons (psv_if (ptv_cmp (op_eqD u64) os_eq (pev_var 0) (pev_glob (by rfl) gm_ZERO gd_ZERO) (nomark _)) (pssv_one (psv_ret (pev_glob (by rfl) gm_ZERO gd_ZERO))) pssv_nil)
    (pssv_one (psv_ret (pev_if (ptv_cmp op_gt os_B (pev_ixA u1 (pev_ixA u1 (pev_var 0) pev_int) pev_int) pev_int (nomark _)) (pev_tup (pav_consX pev_int (pav_consX (pev_chk (pev_ixA u1 (pev_var 0) pev_int)) (pav_nil (x := true))))) (pev_tup (pav_consX pev_int (pav_consX (pev_callTy call_tuple_of cs_tuple (by rfl) z_tuple (by rfl) (pav_cons (pev_lcV (own := [("number", 1)]) [1] rfl nd (piv_seq (pev_ixA u1 (pev_var 0) pev_int)) (blkOk_by (own := [("number", 1)]) (N := N_unit_free) (sc := defScope sf_unit_free) (by decide +kernel)) (fun _ _ _ _ _ => (pgv_name 1 nd)) (fun _ _ _ _ _ => ptsv_nil) (fun _ _ _ _ _ => (pev_un un_neg us_neg (pev_var 1)))) (pav_nil (x := false)))) (pav_nil (x := true)))))))))
  case hw => decide
theorem ok_value_at {a : Addr} {fd : FuncData} (F : Fun K "value_at" "value_at" sf_value_at a fd) (z_reversed : mg "reversed" = none) : FnV P w K mg base 1 a fd ["one", "number"] 0 F_value_at := by
  refine' fnv F sc_value_at (by decide) ?hw fun cdv A outer s H E hr => ?hb
  case hb =>
    have nd := sc_value_at.nd
    have u1 := Nat.lt_of_le_of_lt (Nat.add_le_add_left (show 1 ≤ 16 * 0 + 200 by decide) _) hr.un
    have u64 := Nat.lt_of_le_of_lt (Nat.add_le_add_left (show 64 ≤ 16 * 0 + 200 by decide) _) hr.un
    have u65 := Nat.lt_of_le_of_lt (Nat.add_le_add_left (show 65 ≤ 16 * 0 + 200 by decide) _) hr.un
    exact (pssv_cons (psv_set 2 nd pev_int)
    (pssv_cons (psv_for PassesOwn.never rfl (piv_rev (by rfl) z_reversed (pev_ixA u1 (pev_var 0) pev_int)) (pgv_name 3 nd) (pssv_one (psv_set 2 nd (pev_op op_addV os_add (pev_op op_mulA os_mul (pev_var 2) (pev_var 1)) (pev_var 3)))))
    (pssv_cons (psv_if (ptv_w (pwv_and (ptv_cmp (op_neD u64) os_ne (pev_op op_modN os_mod (pev_ixA u1 (pev_var 0) pev_int) pev_int) pev_int (nomark _)) (pwv_and1 (ptv_cmp (op_eqD u64) os_eq (pev_var 1) (pev_un un_neg us_neg pev_int) (nomark _))))) (pssv_one (psv_ret (pev_un un_neg us_neg (pev_var 2)))) pssv_nil)
    (pssv_one (psv_ret (pev_mov 2))))))
  case hw => decide
theorem ok_composed {a : Addr} {fd : FuncData} (F : Fun K "composed" "composed" sf_composed a fd) (z_len : mg "len" = none) (z_range : mg "range" = none) {u_ZERO : Value} (gm_ZERO : mg "ZERO" = some u_ZERO) (gd_ZERO : GD K u_ZERO c_ZERO) {a_plus : Addr} {fd_plus : FuncData} (G_plus : FnV P w K mg base 2 a_plus fd_plus ["one", "other"] 0 F_plus) (bi_plus : Binds K fd_plus ["one", "other"] []) (gm_plus : mg "plus" = some (.ref a_plus)) (kp_plus : PySem.W.keepIn K (.ref a_plus) = true) {a_times : Addr} {fd_times : FuncData} (G_times : FnV P w K mg base 2 a_times fd_times ["one", "other"] 0 F_times) (bi_times : Binds K fd_times ["one", "other"] []) (gm_times : mg "times" = some (.ref a_times)) (kp_times : PySem.W.keepIn K (.ref a_times) = true) {a_single : Addr} {fd_single : FuncData} (G_single : FnV P w K mg base 2 a_single fd_single ["number", "exponent"] 0 F_single) (bi_single : Binds K fd_single ["number", "exponent"] []) (gm_single : mg "single" = some (.ref a_single)) (kp_single : PySem.W.keepIn K (.ref a_single) = true) {a_coefficient : Addr} {fd_coefficient : FuncData} (G_coefficient : FnV P w K mg base 1 a_coefficient fd_coefficient ["one", "exponent"] 0 F_coefficient) (bi_coefficient : Binds K fd_coefficient ["one", "exponent"] []) (gm_coefficient : mg "coefficient" = some (.ref a_coefficient)) (kp_coefficient : PySem.W.keepIn K (.ref a_coefficient) = true) : FnV P w K mg base 3 a fd ["one", "other"] 0 F_composed := by
  refine' fnv F sc_composed (by decide) ?hw fun cdv A outer s H E hr => ?hb
  case hb =>
    have nd := sc_composed.nd
    have u1 := Nat.lt_of_le_of_lt (Nat.add_le_add_left (show 1 ≤ 16 * 2 + 200 by decide) _) hr.un
    have u64 := Nat.lt_of_le_of_lt (Nat.add_le_add_left (show 64 ≤ 16 * 2 + 200 by decide) _) hr.un
    have u65 := Nat.lt_of_le_of_lt (Nat.add_le_add_left (show 65 ≤ 16 * 2 + 200 by decide) _) hr.un
    exact (pssv_cons (psv_set 2 nd (pev_glob (by rfl) gm_ZERO gd_ZERO))
    (pssv_cons (psv_for PassesOwn.never rfl (piv_range3 (by rfl) z_range (pav_cons (pev_op op_sub os_I (pev_op op_addV os_add (pev_ixA u1 (pev_var 0) pev_int) (pev_callB call_lenV cs_len (by rfl) z_len (by rfl) (pav_cons (pev_ixA u1 (pev_var 0) pev_int) (pav_nil (x := false))))) pev_int) (pav_cons (pev_un un_neg us_neg pev_int) (pav_cons (pev_un un_neg us_neg pev_int) (pav_nil (x := false)))))) (pgv_name 3 nd) (pssv_one (psv_set 2 nd (pev_call G_plus runF_ok (hr.mono (by decide)) (by rfl) gm_plus kp_plus bi_plus (pav_cons (pev_call G_times runF_ok (hr.mono (by decide)) (by rfl) gm_times kp_times bi_times (pav_cons (pev_var 2) (pav_cons (pev_var 1) (pav_nil (x := false))))) (pav_cons (pev_call G_single runF_ok (hr.mono (by decide)) (by rfl) gm_single kp_single bi_single (pav_cons (pev_call G_coefficient runF_ok (hr.mono (by decide)) (by rfl) gm_coefficient kp_coefficient bi_coefficient (pav_cons (pev_var 0) (pav_cons (pev_var 3) (pav_nil (x := false))))) (pav_cons pev_int (pav_nil (x := false))))) (pav_nil (x := false))))))))
    (pssv_one (psv_ret (pev_mov 2)))))
  case hw => decide
theorem ok_is_palindrome {a : Addr} {fd : FuncData} (F : Fun K "is_palindrome" "is_palindrome" sf_is_palindrome a fd) (z_reversed : mg "reversed" = none) (z_tuple : mg "tuple" = none) : FnV P w K mg base 1 a fd ["one"] 0 F_is_palindrome := by
  refine' fnv F sc_is_palindrome (by decide) ?hw fun cdv A outer s H E hr => ?hb
  case hb =>
    have nd := sc_is_palindrome.nd
    have u1 := Nat.lt_of_le_of_lt (Nat.add_le_add_left (show 1 ≤ 16 * 0 + 200 by decide) _) hr.un
    have u64 := Nat.lt_of_le_of_lt (Nat.add_le_add_left (show 64 ≤ 16 * 0 + 200 by decide) _) hr.un
    have u65 := Nat.lt_of_le_of_lt (Nat.add_le_add_left (show 65 ≤ 16 * 0 + 200 by decide) _) hr.un
    exact (pssv_one (psv_ret (pev_cmp (op_eqD u64) os_eq (pev_ixA u1 (pev_var 0) pev_int) (pev_tupRev rfl (by rfl) z_tuple (by rfl) z_reversed (pev_ixA u1 (pev_var 0) pev_int)) (nomark _))))
  case hw => decide
theorem ok__law_state {a : Addr} {fd : FuncData} (F : Fun K "_law_state" "_law_state" sf__law_state a fd) (z_list : mg "list" = none) : FnV P w K mg base 1 a fd ["script"] 0 F__law_state := by
  refine' fnv F sc__law_state (by decide) ?hw fun cdv A outer s H E hr => ?hb
  case hb =>
    have nd := sc__law_state.nd
    have u1 := Nat.lt_of_le_of_lt (Nat.add_le_add_left (show 1 ≤ 16 * 0 + 200 by decide) _) hr.un
    have u64 := Nat.lt_of_le_of_lt (Nat.add_le_add_left (show 64 ≤ 16 * 0 + 200 by decide) _) hr.un
    have u65 := Nat.lt_of_le_of_lt (Nat.add_le_add_left (show 65 ≤ 16 * 0 + 200 by decide) _) hr.un
    exact (pssv_one (psv_ret (pev_lst (pav_consX (pev_frz (pev_callTy (call_listA rfl) cs_listA (by rfl) z_list (by rfl) (pav_cons (pev_var 0) (pav_nil (x := false))))) (pav_consX pev_int (pav_consX pev_int (pav_consX pev_int (pav_consX pev_bl (pav_consX pev_int (pav_nil (x := true)))))))))))
  case hw => decide
theorem ok__law_draw {a : Addr} {fd : FuncData} (F : Fun K "_law_draw" "_law_draw" sf__law_draw a fd) (z_int : mg "int" = none) (z_len : mg "len" = none) : FnV P w K mg base 1 a fd ["state", "limit"] 1 F__law_draw := by
  refine' fnv F sc__law_draw (by decide) ?hw fun cdv A outer s H E hr => ?hb
  case hb =>
    have nd := sc__law_draw.nd
    have u1 := Nat.lt_of_le_of_lt (Nat.add_le_add_left (show 1 ≤ 16 * 0 + 200 by decide) _) hr.un
    have u64 := Nat.lt_of_le_of_lt (Nat.add_le_add_left (show 64 ≤ 16 * 0 + 200 by decide) _) hr.un
    have u65 := Nat.lt_of_le_of_lt (Nat.add_le_add_left (show 65 ≤ 16 * 0 + 200 by decide) _) hr.un
    exact (pssv_cons (psv_if (ptv_cmp (op_eqD u64) os_eq (pev_ixA u1 (pev_var 0) pev_int) pev_int (nomark _)) (pssv_cons (psv_if (ptv_cmp op_ge os_B (pev_ixA u1 (pev_var 0) pev_int) (pev_callB call_lenV cs_len (by rfl) z_len (by rfl) (pav_cons (pev_ixA u1 (pev_var 0) pev_int) (pav_nil (x := false)))) (nomark _)) (pssv_one (psv_ret pev_int)) pssv_nil)
    (pssv_cons (psv_set 2 nd (pev_chk (pev_ixA u1 (pev_ixA u1 (pev_var 0) pev_int) (pev_ixA u1 (pev_var 0) pev_int))))
    (pssv_cons (psv_if (ptv_cmp op_lt os_B (pev_var 2) pev_int (nomark _)) (pssv_one (psv_set 2 nd (pev_op op_sub os_I (pev_un un_neg us_neg pev_int) (pev_var 2)))) pssv_nil)
    (pssv_cons (psv_asg (pev_op op_addV os_add (pev_ixA u1 (pev_var 0) pev_int) pev_int) (pgv_sub 0 u1 pev_int))
    (pssv_cons (psv_asg (pev_var 2) (pgv_sub 0 u1 pev_int))
    (pssv_cons (psv_asg (pev_cmp op_ge os_B (pev_var 2) (pev_op op_pow os_pow pev_int pev_int) (nomark _)) (pgv_sub 0 u1 pev_int))
    (pssv_cons (psv_asg pev_int (pgv_sub 0 u1 pev_int))
    (pssv_one (psv_if (ptv_tr (pev_ixA u1 (pev_var 0) pev_int)) (pssv_one (psv_asg pev_int (pgv_sub 0 u1 pev_int))) pssv_nil))))))))) pssv_nil)
    (pssv_cons (psv_asg (pev_op op_sub os_I (pev_ixA u1 (pev_var 0) pev_int) pev_int) (pgv_sub 0 u1 pev_int))
    (pssv_cons (psv_if (ptv_tr (pev_ixA u1 (pev_var 0) pev_int)) (pssv_cons (psv_set 3 nd (pev_op op_modN os_mod (pev_callTy call_int1 cs_int (by rfl) z_int (by rfl) (pav_cons (pev_ixA u1 (pev_var 0) pev_int) (pav_nil (x := false)))) (pev_var 1)))
    (pssv_cons (psv_asg (pev_op op_fdivL os_div (pev_ixA u1 (pev_var 0) pev_int) (pev_var 1)) (pgv_sub 0 u1 pev_int))
    (pssv_cons (psv_if (ptv_cmp (op_eqD u64) os_eq (pev_ixA u1 (pev_var 0) pev_int) pev_int (nomark _)) (pssv_one (psv_asg pev_int (pgv_sub 0 u1 pev_int))) pssv_nil)
    (pssv_one (psv_ret (pev_mov 3)))))) pssv_nil)
    (pssv_cons (psv_set 4 nd (pev_op op_modN os_mod (pev_callTy call_int1 cs_int (by rfl) z_int (by rfl) (pav_cons (pev_op op_addV os_add (pev_op op_addV os_add (pev_op op_mulA os_mul (pev_ixA u1 (pev_var 0) pev_int) pev_int) (pev_op op_mulA os_mul (pev_ixA u1 (pev_var 0) pev_int) pev_int)) pev_int) (pav_nil (x := false)))) pev_int))
    (pssv_cons (psv_set 4 nd (pev_op op_modN os_mod (pev_callTy call_int1 cs_int (by rfl) z_int (by rfl) (pav_cons (pev_op op_addV os_add (pev_op op_addV os_add (pev_op op_mulA os_mul (pev_var 4) (pev_var 4)) (pev_op op_mulA os_mul (pev_ixA u1 (pev_var 0) pev_int) pev_int)) (pev_ixA u1 (pev_var 0) pev_int)) (pav_nil (x := false)))) pev_int))
    (pssv_one (psv_ret (pev_op op_modN os_mod (pev_callTy call_int1 cs_int (by rfl) z_int (by rfl) (pav_cons (pev_var 4) (pav_nil (x := false)))) (pev_var 1)))))))))
  case hw => decide
theorem ok__law_truth {a : Addr} {fd : FuncData} (F : Fun K "_law_truth" "_law_truth" sf__law_truth a fd) : FnV P w K mg base 1 a fd ["told", "due"] 0 F__law_truth := by
  refine' fnv F sc__law_truth (by decide) ?hw fun cdv A outer s H E hr => ?hb
  case hb =>
    have nd := sc__law_truth.nd
    have u1 := Nat.lt_of_le_of_lt (Nat.add_le_add_left (show 1 ≤ 16 * 0 + 200 by decide) _) hr.un
    have u64 := Nat.lt_of_le_of_lt (Nat.add_le_add_left (show 64 ≤ 16 * 0 + 200 by decide) _) hr.un
    have u65 := Nat.lt_of_le_of_lt (Nat.add_le_add_left (show 65 ≤ 16 * 0 + 200 by decide) _) hr.un
    exact (pssv_cons (psv_if (ptv_tr (pev_var 1)) (pssv_one (psv_ret (pev_cmp op_isBl os_isB (pev_var 0) pev_bl (nomark _)))) pssv_nil)
    (pssv_one (psv_ret (pev_cmp op_isBl os_isB (pev_var 0) pev_bl (nomark _)))))
  case hw => decide
theorem ok__law_terms {a : Addr} {fd : FuncData} (F : Fun K "_law_terms" "_law_terms" sf__law_terms a fd) (z_len : mg "len" = none) (z_range : mg "range" = none) : FnV P w K mg base 1 a fd ["one"] 0 F__law_terms := by
  refine' fnv F sc__law_terms (by decide) ?hw fun cdv A outer s H E hr => ?hb
  case hb =>
    have nd := sc__law_terms.nd
    have u1 := Nat.lt_of_le_of_lt (Nat.add_le_add_left (show 1 ≤ 16 * 0 + 200 by decide) _) hr.un
    have u64 := Nat.lt_of_le_of_lt (Nat.add_le_add_left (show 64 ≤ 16 * 0 + 200 by decide) _) hr.un
    have u65 := Nat.lt_of_le_of_lt (Nat.add_le_add_left (show 65 ≤ 16 * 0 + 200 by decide) _) hr.un
    exact (pssv_cons (psv_set 1 nd pev_dnew)
    (pssv_cons (psv_for PassesOwn.never rfl (piv_range1 (by rfl) z_range (pav_cons (pev_callB call_lenV cs_len (by rfl) z_len (by rfl) (pav_cons (pev_ixA u1 (pev_var 0) pev_int) (pav_nil (x := false)))) (pav_nil (x := false)))) (pgv_name 2 nd) (pssv_one (psv_if (ptv_cmp (op_neD u64) os_ne (pev_ixA u1 (pev_ixA u1 (pev_var 0) pev_int) (pev_var 2)) pev_int (nomark _)) (pssv_one (psv_asg (pev_ixA u1 (pev_ixA u1 (pev_var 0) pev_int) (pev_var 2)) (pgv_sub 1 u1 (pev_op op_addV os_add (pev_ixA u1 (pev_var 0) pev_int) (pev_var 2))))) pssv_nil)))
    (pssv_one (psv_ret (pev_mov 1)))))
  case hw => decide
theorem ok__law_poly {a : Addr} {fd : FuncData} (F : Fun K "_law_poly" "_law_poly" sf__law_poly a fd) (z_len : mg "len" = none) (z_range : mg "range" = none) (z_sorted : mg "sorted" = none) (z_tuple : mg "tuple" = none) : FnV P w K mg base 1 a fd ["terms"] 0 F__law_poly := by
  refine' fnv F sc__law_poly (by decide) ?hw fun cdv A outer s H E hr => ?hb
  case hb =>
    have nd := sc__law_poly.nd
    have u1 := Nat.lt_of_le_of_lt (Nat.add_le_add_left (show 1 ≤ 16 * 0 + 200 by decide) _) hr.un
    have u64 := Nat.lt_of_le_of_lt (Nat.add_le_add_left (show 64 ≤ 16 * 0 + 200 by decide) _) hr.un
    have u65 := Nat.lt_of_le_of_lt (Nat.add_le_add_left (show 65 ≤ 16 * 0 + 200 by decide) _) hr.un
    exact (pssv_cons (psv_set 1 nd (pev_callB cr_sortedI cs_sortedI (by rfl) z_sorted (by rfl) (pav_cons (pev_lcDV (own := [("place", 2)]) [2] 0 rfl nd (piv_key 0) (blkOk_by (own := [("place", 2)]) (N := N__law_poly) (sc := defScope sf__law_poly) (by decide +kernel)) (fun _ _ _ _ _ => (pgv_name 2 nd)) (fun _ _ _ _ _ => (ptsv_one (ptv_cmp (op_neD u64) os_ne (pev_ixA u1 (pev_var 0) (pev_var 2)) pev_int (nomark _)))) (fun _ _ _ _ _ => (pev_val 2))) (pav_nil (x := false)))))
    (pssv_cons (psv_if (ptv_cmp (op_eqD u64) os_eq (pev_callB call_lenV cs_len (by rfl) z_len (by rfl) (pav_cons (pev_var 1) (pav_nil (x := false)))) pev_int (nomark _)) (pssv_one (psv_ret (pev_tup (pav_consX pev_int (pav_consX (pev_tup (pav_nil (x := true))) (pav_nil (x := true))))))) pssv_nil)
    (pssv_cons (psv_set 3 nd (pev_chk (pev_ixA u1 (pev_var 1) pev_int)))
    (pssv_one (psv_ret (pev_tup (pav_consX (pev_ali 3) (pav_consX (pev_callTy call_tuple_of cs_tuple (by rfl) z_tuple (by rfl) (pav_cons (pev_lcV (own := [("place", 2)]) [2] rfl nd (piv_range2 (by rfl) z_range (pav_cons (pev_var 3) (pav_cons (pev_op op_addV os_add (pev_ixA u1 (pev_var 1) (pev_op op_sub os_I (pev_callB call_lenV cs_len (by rfl) z_len (by rfl) (pav_cons (pev_var 1) (pav_nil (x := false)))) pev_int)) pev_int) (pav_nil (x := false))))) (blkOk_by (own := [("place", 2)]) (N := N__law_poly) (sc := defScope sf__law_poly) (by decide +kernel)) (fun _ _ _ _ _ => (pgv_name 2 nd)) (fun _ _ _ _ _ => ptsv_nil) (fun _ _ _ _ _ => (pev_get2 u1 (pev_var 0) (pev_var 2) pev_int))) (pav_nil (x := false)))) (pav_nil (x := true))))))))))
  case hw => decide
theorem ok__law_plus {a : Addr} {fd : FuncData} (F : Fun K "_law_plus" "_law_plus" sf__law_plus a fd) (z_dict : mg "dict" = none) (z_list : mg "list" = none) : FnV P w K mg base 1 a fd ["one", "two"] 0 F__law_plus := by
  refine' fnv F sc__law_plus (by decide) ?hw fun cdv A outer s H E hr => ?hb
  case hb =>
    have nd := sc__law_plus.nd
    have u1 := Nat.lt_of_le_of_lt (Nat.add_le_add_left (show 1 ≤ 16 * 0 + 200 by decide) _) hr.un
    have u64 := Nat.lt_of_le_of_lt (Nat.add_le_add_left (show 64 ≤ 16 * 0 + 200 by decide) _) hr.un
    have u65 := Nat.lt_of_le_of_lt (Nat.add_le_add_left (show 65 ≤ 16 * 0 + 200 by decide) _) hr.un
    exact (pssv_cons (psv_set 2 nd (pev_callTy call_dictD cs_dict (by rfl) z_dict (by rfl) (pav_cons (pev_var 0) (pav_nil (x := false)))))
    (pssv_cons (psv_forD 1 PassesOwn.never rfl (piv_key 1) (pgv_name 3 nd) (pssv_one (psv_asg (pev_op op_addV os_add (pev_get2 u1 (pev_var 2) (pev_var 3) pev_int) (pev_ixA u1 (pev_var 1) (pev_var 3))) (pgv_sub 2 u1 (pev_var 3)))))
    (pssv_cons (psv_for PassesOwn.never rfl (piv_seq (pev_callTy (call_listA rfl) cs_listA (by rfl) z_list (by rfl) (pav_cons (pev_var 2) (pav_nil (x := false))))) (pgv_name 3 nd) (pssv_one (psv_if (ptv_cmp (op_eqD u64) os_eq (pev_ixA u1 (pev_var 2) (pev_var 3)) pev_int (nomark _)) (pssv_one (psv_expr (pev_dpop 2 (pev_var 3)))) pssv_nil)))
    (pssv_one (psv_ret (pev_mov 2))))))
  case hw => decide
theorem ok__law_times {a : Addr} {fd : FuncData} (F : Fun K "_law_times" "_law_times" sf__law_times a fd) (z_list : mg "list" = none) : FnV P w K mg base 1 a fd ["one", "two"] 0 F__law_times := by
  refine' fnv F sc__law_times (by decide) ?hw fun cdv A outer s H E hr => ?hb
  case hb =>
    have nd := sc__law_times.nd
    have u1 := Nat.lt_of_le_of_lt (Nat.add_le_add_left (show 1 ≤ 16 * 0 + 200 by decide) _) hr.un
    have u64 := Nat.lt_of_le_of_lt (Nat.add_le_add_left (show 64 ≤ 16 * 0 + 200 by decide) _) hr.un
    have u65 := Nat.lt_of_le_of_lt (Nat.add_le_add_left (show 65 ≤ 16 * 0 + 200 by decide) _) hr.un
    exact (pssv_cons (psv_set 2 nd pev_dnew)
    (pssv_cons (psv_forD 0 PassesOwn.never rfl (piv_key 0) (pgv_name 3 nd) (pssv_one (psv_forD 1 PassesOwn.never rfl (piv_key 1) (pgv_name 4 nd) (pssv_one (psv_asg (pev_op op_addV os_add (pev_get2 u1 (pev_var 2) (pev_op op_addV os_add (pev_var 3) (pev_var 4)) pev_int) (pev_op op_mulA os_mul (pev_ixA u1 (pev_var 0) (pev_var 3)) (pev_ixA u1 (pev_var 1) (pev_var 4)))) (pgv_sub 2 u1 (pev_op op_addV os_add (pev_var 3) (pev_var 4))))))))
    (pssv_cons (psv_for PassesOwn.never rfl (piv_seq (pev_callTy (call_listA rfl) cs_listA (by rfl) z_list (by rfl) (pav_cons (pev_var 2) (pav_nil (x := false))))) (pgv_name 3 nd) (pssv_one (psv_if (ptv_cmp (op_eqD u64) os_eq (pev_ixA u1 (pev_var 2) (pev_var 3)) pev_int (nomark _)) (pssv_one (psv_expr (pev_dpop 2 (pev_var 3)))) pssv_nil)))
    (pssv_one (psv_ret (pev_mov 2))))))
  case hw => decide
theorem ok__law_is_poly {a : Addr} {fd : FuncData} (F : Fun K "_law_is_poly" "_law_is_poly" sf__law_is_poly a fd) (z_bool : mg "bool" = none) (z_int : mg "int" = none) (z_isinstance : mg "isinstance" = none) (z_len : mg "len" = none) (z_tuple : mg "tuple" = none) : FnV P w K mg base 1 a fd ["value"] 0 F__law_is_poly := by
  refine' fnv F sc__law_is_poly (by decide) ?hw fun cdv A outer s H E hr => ?hb
  case hb =>
    have nd := sc__law_is_poly.nd
    have u1 := Nat.lt_of_le_of_lt (Nat.add_le_add_left (show 1 ≤ 16 * 0 + 200 by decide) _) hr.un
    have u64 := Nat.lt_of_le_of_lt (Nat.add_le_add_left (show 64 ≤ 16 * 0 + 200 by decide) _) hr.un
    have u65 := Nat.lt_of_le_of_lt (Nat.add_le_add_left (show 65 ≤ 16 * 0 + 200 by decide) _) hr.un
    exact (pssv_cons (psv_if (ptv_w (pwv_or (ptv_not (ptv_tr (pev_isi "tuple" (by rfl) z_tuple (by rfl) (by rfl) z_isinstance (pev_var 0)))) (pwv_or (ptv_cmp (op_neD u64) os_ne (pev_callB call_lenV cs_len (by rfl) z_len (by rfl) (pav_cons (pev_var 0) (pav_nil (x := false)))) pev_int (nomark _)) (pwv_or1 (ptv_not (ptv_tr (pev_isi "tuple" (by rfl) z_tuple (by rfl) (by rfl) z_isinstance (pev_ixA u1 (pev_var 0) pev_int)))))))) (pssv_one (psv_ret pev_bl)) pssv_nil)
    (pssv_cons (psv_for PassesOwn.never rfl (piv_seq (pev_op op_addV os_add (pev_tup (pav_consX (pev_chk (pev_ixA u1 (pev_var 0) pev_int)) (pav_nil (x := true)))) (pev_ixA u1 (pev_var 0) pev_int))) (pgv_name 1 nd) (pssv_one (psv_if (ptv_w (pwv_or (ptv_not (ptv_tr (pev_isi "int" (by rfl) z_int (by rfl) (by rfl) z_isinstance (pev_var 1)))) (pwv_or1 (ptv_tr (pev_isi "bool" (by rfl) z_bool (by rfl) (by rfl) z_isinstance (pev_var 1)))))) (pssv_one (psv_ret pev_bl)) pssv_nil)))
    (pssv_cons (psv_if (ptv_cmp (op_eqD u64) os_eq (pev_callB call_lenV cs_len (by rfl) z_len (by rfl) (pav_cons (pev_ixA u1 (pev_var 0) pev_int) (pav_nil (x := false)))) pev_int (nomark _)) (pssv_one (psv_ret (pev_cmp (op_eqD u64) os_eq (pev_ixA u1 (pev_var 0) pev_int) pev_int (nomark _)))) pssv_nil)
    (pssv_one (psv_ret (pev_and (pev_cmp (op_neD u64) os_ne (pev_ixA u1 (pev_ixA u1 (pev_var 0) pev_int) pev_int) pev_int (nomark _)) (pev_one (pev_cmp (op_neD u64) os_ne (pev_ixA u1 (pev_ixA u1 (pev_var 0) pev_int) (pev_op op_sub os_I (pev_callB call_lenV cs_len (by rfl) z_len (by rfl) (pav_cons (pev_ixA u1 (pev_var 0) pev_int) (pav_nil (x := false)))) pev_int)) pev_int (nomark _)))))))))
  case hw => decide
theorem ok__law_drawn_poly {a : Addr} {fd : FuncData} (F : Fun K "_law_drawn_poly" "_law_drawn_poly" sf__law_drawn_poly a fd) (z_range : mg "range" = none) {a__law_draw : Addr} {fd__law_draw : FuncData} (G__law_draw : FnV P w K mg base 1 a__law_draw fd__law_draw ["state", "limit"] 1 F__law_draw) (bi__law_draw : Binds K fd__law_draw ["state", "limit"] []) (gm__law_draw : mg "_law_draw" = some (.ref a__law_draw)) (kp__law_draw : PySem.W.keepIn K (.ref a__law_draw) = true) {a__law_poly : Addr} {fd__law_poly : FuncData} (G__law_poly : FnV P w K mg base 1 a__law_poly fd__law_poly ["terms"] 0 F__law_poly) (bi__law_poly : Binds K fd__law_poly ["terms"] []) (gm__law_poly : mg "_law_poly" = some (.ref a__law_poly)) (kp__law_poly : PySem.W.keepIn K (.ref a__law_poly) = true) : FnV P w K mg base 2 a fd ["state", "most"] 1 F__law_drawn_poly := by
  refine' fnv F sc__law_drawn_poly (by decide) ?hw fun cdv A outer s H E hr => ?hb
  case hb =>
    have nd := sc__law_drawn_poly.nd
    have u1 := Nat.lt_of_le_of_lt (Nat.add_le_add_left (show 1 ≤ 16 * 1 + 200 by decide) _) hr.un
    have u64 := Nat.lt_of_le_of_lt (Nat.add_le_add_left (show 64 ≤ 16 * 1 + 200 by decide) _) hr.un
    have u65 := Nat.lt_of_le_of_lt (Nat.add_le_add_left (show 65 ≤ 16 * 1 + 200 by decide) _) hr.un
    exact (pssv_cons (psv_set 2 nd pev_dnew)
    (pssv_cons (psv_set 3 nd (pev_op op_sub os_I (pev_callM 0 G__law_draw runF_ok (by decide) (hr.mono (by decide)) (by rfl) gm__law_draw kp__law_draw bi__law_draw (pav_cons pev_int (pav_nil (x := false)))) pev_int))
    (pssv_cons (psv_for PassesOwn.never rfl (piv_range1 (by rfl) z_range (pav_cons (pev_callM 0 G__law_draw runF_ok (by decide) (hr.mono (by decide)) (by rfl) gm__law_draw kp__law_draw bi__law_draw (pav_cons (pev_op op_addV os_add (pev_var 1) pev_int) (pav_nil (x := false)))) (pav_nil (x := false)))) (pgv_name 4 nd) (pssv_cons (psv_set 5 nd (pev_op op_sub os_I (pev_callM 0 G__law_draw runF_ok (by decide) (hr.mono (by decide)) (by rfl) gm__law_draw kp__law_draw bi__law_draw (pav_cons pev_int (pav_nil (x := false)))) pev_int))
    (pssv_cons (psv_if (ptv_cmp (op_eqD u64) os_eq (pev_callM 0 G__law_draw runF_ok (by decide) (hr.mono (by decide)) (by rfl) gm__law_draw kp__law_draw bi__law_draw (pav_cons pev_int (pav_nil (x := false)))) pev_int (nomark _)) (pssv_one (psv_set 5 nd (pev_op op_addV os_add (pev_op op_mulA os_mul (pev_op op_sub os_I (pev_callM 0 G__law_draw runF_ok (by decide) (hr.mono (by decide)) (by rfl) gm__law_draw kp__law_draw bi__law_draw (pav_cons pev_int (pav_nil (x := false)))) pev_int) (pev_op op_pow os_pow pev_int pev_int)) (pev_callM 0 G__law_draw runF_ok (by decide) (hr.mono (by decide)) (by rfl) gm__law_draw kp__law_draw bi__law_draw (pav_cons pev_int (pav_nil (x := false))))))) pssv_nil)
    (pssv_one (psv_asg (pev_var 5) (pgv_sub 2 u1 (pev_op op_addV os_add (pev_var 3) (pev_var 4))))))))
    (pssv_one (psv_ret (pev_call G__law_poly runF_ok (hr.mono (by decide)) (by rfl) gm__law_poly kp__law_poly bi__law_poly (pav_cons (pev_var 2) (pav_nil (x := false)))))))))
  case hw => decide
theorem ok__law_divided {a : Addr} {fd : FuncData} (F : Fun K "_law_divided" "_law_divided" sf__law_divided a fd) (z_dict : mg "dict" = none) (z_int : mg "int" = none) (z_len : mg "len" = none) (z_max : mg "max" = none) (z_min : mg "min" = none) (z_range : mg "range" = none) {a__law_plus : Addr} {fd__law_plus : FuncData} (G__law_plus : FnV P w K mg base 1 a__law_plus fd__law_plus ["one", "two"] 0 F__law_plus) (bi__law_plus : Binds K fd__law_plus ["one", "two"] []) (gm__law_plus : mg "_law_plus" = some (.ref a__law_plus)) (kp__law_plus : PySem.W.keepIn K (.ref a__law_plus) = true) : FnV P w K mg base 2 a fd ["one", "two"] 0 F__law_divided := by
  refine' fnv F sc__law_divided (by decide) ?hw fun cdv A outer s H E hr => ?hb
  case hb =>
    have nd := sc__law_divided.nd
    have u1 := Nat.lt_of_le_of_lt (Nat.add_le_add_left (show 1 ≤ 16 * 1 + 200 by decide) _) hr.un
    have u64 := Nat.lt_of_le_of_lt (Nat.add_le_add_left (show 64 ≤ 16 * 1 + 200 by decide) _) hr.un
    have u65 := Nat.lt_of_le_of_lt (Nat.add_le_add_left (show 65 ≤ 16 * 1 + 200 by decide) _) hr.un
    exact (pssv_cons (psv_set 2 nd (pev_callTy call_dictD cs_dict (by rfl) z_dict (by rfl) (pav_cons (pev_var 0) (pav_nil (x := false)))))
    (pssv_cons (psv_set 3 nd pev_dnew)
    (pssv_cons (psv_set 4 nd (pev_callB (call_maxA rfl) cs_maxA (by rfl) z_max (by rfl) (pav_cons (pev_var 1) (pav_nil (x := false)))))
    (pssv_cons (psv_for PassesOwn.never rfl (piv_range1 (by rfl) z_range (pav_cons pev_int (pav_nil (x := false)))) (pgv_name 5 nd) (pssv_cons (psv_if (ptv_cmp (op_eqD u64) os_eq (pev_callB call_lenV cs_len (by rfl) z_len (by rfl) (pav_cons (pev_var 2) (pav_nil (x := false)))) pev_int (nomark _)) (pssv_one (psv_ret (pev_mov 3))) pssv_nil)
    (pssv_cons (psv_set 6 nd (pev_callB (call_maxA rfl) cs_maxA (by rfl) z_max (by rfl) (pav_cons (pev_var 2) (pav_nil (x := false)))))
    (pssv_cons (psv_if (ptv_w (pwv_or (ptv_cmp op_lt os_B (pev_op op_sub os_I (pev_var 6) (pev_var 4)) (pev_op op_sub os_I (pev_callB (call_minA rfl) cs_minA (by rfl) z_min (by rfl) (pav_cons (pev_var 0) (pav_nil (x := false)))) (pev_callB (call_minA rfl) cs_minA (by rfl) z_min (by rfl) (pav_cons (pev_var 1) (pav_nil (x := false))))) (nomark _)) (pwv_or1 (ptv_cmp (op_neD u64) os_ne (pev_op op_modN os_mod (pev_callTy call_int1 cs_int (by rfl) z_int (by rfl) (pav_cons (pev_ixA u1 (pev_var 2) (pev_var 6)) (pav_nil (x := false)))) (pev_ixA u1 (pev_var 1) (pev_var 4))) pev_int (nomark _))))) (pssv_one (psv_ret pev_non)) pssv_nil)
    (pssv_cons (psv_set 7 nd (pev_op op_fdivL os_div (pev_ixA u1 (pev_var 2) (pev_var 6)) (pev_ixA u1 (pev_var 1) (pev_var 4))))
    (pssv_cons (psv_asg (pev_var 7) (pgv_sub 3 u1 (pev_op op_sub os_I (pev_var 6) (pev_var 4))))
    (pssv_cons (psv_set 8 nd pev_dnew)
    (pssv_cons (psv_forD 1 PassesOwn.never rfl (piv_key 1) (pgv_name 9 nd) (pssv_one (psv_asg (pev_op op_sub os_I pev_int (pev_op op_mulA os_mul (pev_var 7) (pev_ixA u1 (pev_var 1) (pev_var 9)))) (pgv_sub 8 u1 (pev_op op_sub os_I (pev_op op_addV os_add (pev_var 9) (pev_var 6)) (pev_var 4))))))
    (pssv_one (psv_set 2 nd (pev_call G__law_plus runF_ok (hr.mono (by decide)) (by rfl) gm__law_plus kp__law_plus bi__law_plus (pav_cons (pev_var 2) (pav_cons (pev_var 8) (pav_nil (x := false)))))))))))))))
    (pssv_one (psv_ret pev_non))))))
  case hw => decide
theorem ok_law {a : Addr} {fd : FuncData} (F : Fun K "law" "law" sf_law a fd) (z_abs : mg "abs" = none) (z_dict : mg "dict" = none) (z_int : mg "int" = none) (z_len : mg "len" = none) (z_range : mg "range" = none) (z_tuple : mg "tuple" = none) {a__law_state : Addr} {fd__law_state : FuncData} (G__law_state : FnV P w K mg base 1 a__law_state fd__law_state ["script"] 0 F__law_state) (bi__law_state : Binds K fd__law_state ["script"] []) (gm__law_state : mg "_law_state" = some (.ref a__law_state)) (kp__law_state : PySem.W.keepIn K (.ref a__law_state) = true) {a__law_drawn_poly : Addr} {fd__law_drawn_poly : FuncData} (G__law_drawn_poly : FnV P w K mg base 2 a__law_drawn_poly fd__law_drawn_poly ["state", "most"] 1 F__law_drawn_poly) (bi__law_drawn_poly : Binds K fd__law_drawn_poly ["state", "most"] []) (gm__law_drawn_poly : mg "_law_drawn_poly" = some (.ref a__law_drawn_poly)) (kp__law_drawn_poly : PySem.W.keepIn K (.ref a__law_drawn_poly) = true) {a__law_draw : Addr} {fd__law_draw : FuncData} (G__law_draw : FnV P w K mg base 1 a__law_draw fd__law_draw ["state", "limit"] 1 F__law_draw) (bi__law_draw : Binds K fd__law_draw ["state", "limit"] []) (gm__law_draw : mg "_law_draw" = some (.ref a__law_draw)) (kp__law_draw : PySem.W.keepIn K (.ref a__law_draw) = true) {a__law_terms : Addr} {fd__law_terms : FuncData} (G__law_terms : FnV P w K mg base 1 a__law_terms fd__law_terms ["one"] 0 F__law_terms) (bi__law_terms : Binds K fd__law_terms ["one"] []) (gm__law_terms : mg "_law_terms" = some (.ref a__law_terms)) (kp__law_terms : PySem.W.keepIn K (.ref a__law_terms) = true) {a__law_poly : Addr} {fd__law_poly : FuncData} (G__law_poly : FnV P w K mg base 1 a__law_poly fd__law_poly ["terms"] 0 F__law_poly) (bi__law_poly : Binds K fd__law_poly ["terms"] []) (gm__law_poly : mg "_law_poly" = some (.ref a__law_poly)) (kp__law_poly : PySem.W.keepIn K (.ref a__law_poly) = true) {a__law_times : Addr} {fd__law_times : FuncData} (G__law_times : FnV P w K mg base 1 a__law_times fd__law_times ["one", "two"] 0 F__law_times) (bi__law_times : Binds K fd__law_times ["one", "two"] []) (gm__law_times : mg "_law_times" = some (.ref a__law_times)) (kp__law_times : PySem.W.keepIn K (.ref a__law_times) = true) {a_quotient : Addr} {fd_quotient : FuncData} (G_quotient : FnV P w K mg base 2 a_quotient fd_quotient ["one", "other"] 0 F_quotient) (bi_quotient : Binds K fd_quotient ["one", "other"] []) (gm_quotient : mg "quotient" = some (.ref a_quotient)) (kp_quotient : PySem.W.keepIn K (.ref a_quotient) = true) {a__law_is_poly : Addr} {fd__law_is_poly : FuncData} (G__law_is_poly : FnV P w K mg base 1 a__law_is_poly fd__law_is_poly ["value"] 0 F__law_is_poly) (bi__law_is_poly : Binds K fd__law_is_poly ["value"] []) (gm__law_is_poly : mg "_law_is_poly" = some (.ref a__law_is_poly)) (kp__law_is_poly : PySem.W.keepIn K (.ref a__law_is_poly) = true) {a__law_divided : Addr} {fd__law_divided : FuncData} (G__law_divided : FnV P w K mg base 2 a__law_divided fd__law_divided ["one", "two"] 0 F__law_divided) (bi__law_divided : Binds K fd__law_divided ["one", "two"] []) (gm__law_divided : mg "_law_divided" = some (.ref a__law_divided)) (kp__law_divided : PySem.W.keepIn K (.ref a__law_divided) = true) {a_times : Addr} {fd_times : FuncData} (G_times : FnV P w K mg base 2 a_times fd_times ["one", "other"] 0 F_times) (bi_times : Binds K fd_times ["one", "other"] []) (gm_times : mg "times" = some (.ref a_times)) (kp_times : PySem.W.keepIn K (.ref a_times) = true) {a_unit_free : Addr} {fd_unit_free : FuncData} (G_unit_free : FnV P w K mg base 1 a_unit_free fd_unit_free ["one"] 0 F_unit_free) (bi_unit_free : Binds K fd_unit_free ["one"] []) (gm_unit_free : mg "unit_free" = some (.ref a_unit_free)) (kp_unit_free : PySem.W.keepIn K (.ref a_unit_free) = true) {a_spread : Addr} {fd_spread : FuncData} (G_spread : FnV P w K mg base 3 a_spread fd_spread ["one", "step"] 0 F_spread) (bi_spread : Binds K fd_spread ["one", "step"] []) (gm_spread : mg "spread" = some (.ref a_spread)) (kp_spread : PySem.W.keepIn K (.ref a_spread) = true) {a__law_plus : Addr} {fd__law_plus : FuncData} (G__law_plus : FnV P w K mg base 1 a__law_plus fd__law_plus ["one", "two"] 0 F__law_plus) (bi__law_plus : Binds K fd__law_plus ["one", "two"] []) (gm__law_plus : mg "_law_plus" = some (.ref a__law_plus)) (kp__law_plus : PySem.W.keepIn K (.ref a__law_plus) = true) {a_composed : Addr} {fd_composed : FuncData} (G_composed : FnV P w K mg base 3 a_composed fd_composed ["one", "other"] 0 F_composed) (bi_composed : Binds K fd_composed ["one", "other"] []) (gm_composed : mg "composed" = some (.ref a_composed)) (kp_composed : PySem.W.keepIn K (.ref a_composed) = true) {a_value_at : Addr} {fd_value_at : FuncData} (G_value_at : FnV P w K mg base 1 a_value_at fd_value_at ["one", "number"] 0 F_value_at) (bi_value_at : Binds K fd_value_at ["one", "number"] []) (gm_value_at : mg "value_at" = some (.ref a_value_at)) (kp_value_at : PySem.W.keepIn K (.ref a_value_at) = true) {a__law_truth : Addr} {fd__law_truth : FuncData} (G__law_truth : FnV P w K mg base 1 a__law_truth fd__law_truth ["told", "due"] 0 F__law_truth) (bi__law_truth : Binds K fd__law_truth ["told", "due"] []) (gm__law_truth : mg "_law_truth" = some (.ref a__law_truth)) (kp__law_truth : PySem.W.keepIn K (.ref a__law_truth) = true) {a_is_palindrome : Addr} {fd_is_palindrome : FuncData} (G_is_palindrome : FnV P w K mg base 1 a_is_palindrome fd_is_palindrome ["one"] 0 F_is_palindrome) (bi_is_palindrome : Binds K fd_is_palindrome ["one"] []) (gm_is_palindrome : mg "is_palindrome" = some (.ref a_is_palindrome)) (kp_is_palindrome : PySem.W.keepIn K (.ref a_is_palindrome) = true) : FnV P w K mg base 4 a fd ["script"] 0 F_law := by
  refine' fnv F sc_law (by decide) ?hw fun cdv A outer s H E hr => ?hb
  case hb =>
    have nd := sc_law.nd
    have u1 := Nat.lt_of_le_of_lt (Nat.add_le_add_left (show 1 ≤ 16 * 3 + 200 by decide) _) hr.un
    have u64 := Nat.lt_of_le_of_lt (Nat.add_le_add_left (show 64 ≤ 16 * 3 + 200 by decide) _) hr.un
    have u65 := Nat.lt_of_le_of_lt (Nat.add_le_add_left (show 65 ≤ 16 * 3 + 200 by decide) _) hr.un
    exact (pssv_cons (psv_set 1 nd (pev_call G__law_state runF_ok (hr.mono (by decide)) (by rfl) gm__law_state kp__law_state bi__law_state (pav_cons (pev_var 0) (pav_nil (x := false)))))
    (pssv_cons (psv_set 2 nd (pev_callM 1 G__law_drawn_poly runF_ok (by decide) (hr.mono (by decide)) (by rfl) gm__law_drawn_poly kp__law_drawn_poly bi__law_drawn_poly (pav_cons pev_int (pav_nil (x := false)))))
    (pssv_cons (psv_set 3 nd (pev_callM 1 G__law_drawn_poly runF_ok (by decide) (hr.mono (by decide)) (by rfl) gm__law_drawn_poly kp__law_drawn_poly bi__law_drawn_poly (pav_cons pev_int (pav_nil (x := false)))))
    (pssv_cons (psv_if (ptv_cmp (op_eqD u64) os_eq (pev_var 3) (pev_tup (pav_consX pev_int (pav_consX (pev_tup (pav_nil (x := true))) (pav_nil (x := true))))) (nomark _)) (pssv_one (psv_set 3 nd (pev_tup (pav_consX (pev_op op_addV os_add pev_int (pev_callM 1 G__law_draw runF_ok (by decide) (hr.mono (by decide)) (by rfl) gm__law_draw kp__law_draw bi__law_draw (pav_cons pev_int (pav_nil (x := false))))) (pav_consX (pev_tup (pav_consX pev_int (pav_consX pev_int (pav_consX (pev_un un_neg us_neg pev_int) (pav_nil (x := true)))))) (pav_nil (x := true))))))) pssv_nil)
    (pssv_cons (psv_set 4 nd (pev_call G__law_terms runF_ok (hr.mono (by decide)) (by rfl) gm__law_terms kp__law_terms bi__law_terms (pav_cons (pev_var 2) (pav_nil (x := false)))))
    (pssv_cons (psv_set 5 nd (pev_call G__law_terms runF_ok (hr.mono (by decide)) (by rfl) gm__law_terms kp__law_terms bi__law_terms (pav_cons (pev_var 3) (pav_nil (x := false)))))
    (pssv_cons (psv_set 6 nd (pev_call G__law_poly runF_ok (hr.mono (by decide)) (by rfl) gm__law_poly kp__law_poly bi__law_poly (pav_cons (pev_call G__law_times runF_ok (hr.mono (by decide)) (by rfl) gm__law_times kp__law_times bi__law_times (pav_cons (pev_var 4) (pav_cons (pev_var 5) (pav_nil (x := false))))) (pav_nil (x := false)))))
    (pssv_cons (psv_if (ptv_w (pwv_or (ptv_cmp (op_neD u64) os_ne (pev_call G_quotient runF_ok (hr.mono (by decide)) (by rfl) gm_quotient kp_quotient bi_quotient (pav_cons (pev_var 6) (pav_cons (pev_var 3) (pav_nil (x := false))))) (pev_var 2) (nomark _)) (pwv_or1 (ptv_not (ptv_tr (pev_call G__law_is_poly runF_ok (hr.mono (by decide)) (by rfl) gm__law_is_poly kp__law_is_poly bi__law_is_poly (pav_cons (pev_call G_quotient runF_ok (hr.mono (by decide)) (by rfl) gm_quotient kp_quotient bi_quotient (pav_cons (pev_var 6) (pav_cons (pev_var 3) (pav_nil (x := false))))) (pav_nil (x := false))))))))) (pssv_one (psv_ret pev_bl)) pssv_nil)
    (pssv_cons (psv_set 7 nd (pev_callTy call_dictD cs_dict (by rfl) z_dict (by rfl) (pav_cons (pev_call G__law_terms runF_ok (hr.mono (by decide)) (by rfl) gm__law_terms kp__law_terms bi__law_terms (pav_cons (pev_var 6) (pav_nil (x := false)))) (pav_nil (x := false)))))
    (pssv_cons (psv_set 8 nd (pev_op op_sub os_I (pev_callM 1 G__law_draw runF_ok (by decide) (hr.mono (by decide)) (by rfl) gm__law_draw kp__law_draw bi__law_draw (pav_cons pev_int (pav_nil (x := false)))) pev_int))
    (pssv_cons (psv_asg (pev_op op_addV os_add (pev_op op_addV os_add (pev_get2 u1 (pev_var 7) (pev_var 8) pev_int) pev_int) (pev_callM 1 G__law_draw runF_ok (by decide) (hr.mono (by decide)) (by rfl) gm__law_draw kp__law_draw bi__law_draw (pav_cons pev_int (pav_nil (x := false))))) (pgv_sub 7 u1 (pev_var 8)))
    (pssv_cons (psv_for PassesOwn.never rfl (piv_seq (pev_lst (pav_consX (pev_call G__law_poly runF_ok (hr.mono (by decide)) (by rfl) gm__law_poly kp__law_poly bi__law_poly (pav_cons (pev_var 7) (pav_nil (x := false)))) (pav_consX (pev_ali 2) (pav_nil (x := true)))))) (pgv_name 9 nd) (pssv_cons (psv_set 10 nd (pev_call G__law_terms runF_ok (hr.mono (by decide)) (by rfl) gm__law_terms kp__law_terms bi__law_terms (pav_cons (pev_var 9) (pav_nil (x := false)))))
    (pssv_cons (psv_set 11 nd pev_dnew)
    (pssv_cons (psv_if (ptv_cmp op_gt os_B (pev_callB call_lenV cs_len (by rfl) z_len (by rfl) (pav_cons (pev_var 10) (pav_nil (x := false)))) pev_int (nomark _)) (pssv_one (psv_set 11 nd (pev_call G__law_divided runF_ok (hr.mono (by decide)) (by rfl) gm__law_divided kp__law_divided bi__law_divided (pav_cons (pev_var 10) (pav_cons (pev_var 5) (pav_nil (x := false))))))) pssv_nil)
    (pssv_cons (psv_set 12 nd (pev_call G_quotient runF_ok (hr.mono (by decide)) (by rfl) gm_quotient kp_quotient bi_quotient (pav_cons (pev_var 9) (pav_cons (pev_var 3) (pav_nil (x := false))))))
    (pssv_one (psv_if (ptv_cmp op_isN os_isN (pev_var 11) pev_non (nomark _)) (pssv_one (psv_if (ptv_cmp op_notN os_notN (pev_var 12) pev_non (nomark _)) (pssv_one (psv_ret pev_bl)) pssv_nil)) (pssv_one (psv_if (ptv_w (pwv_or (ptv_cmp (op_neD u64) os_ne (pev_var 12) (pev_call G__law_poly runF_ok (hr.mono (by decide)) (by rfl) gm__law_poly kp__law_poly bi__law_poly (pav_cons (pev_var 11) (pav_nil (x := false)))) (nomark _)) (pwv_or1 (ptv_cmp (op_neD u64) os_ne (pev_call G_times runF_ok (hr.mono (by decide)) (by rfl) gm_times kp_times bi_times (pav_cons (pev_var 12) (pav_cons (pev_var 3) (pav_nil (x := false))))) (pev_var 9) (nomark _))))) (pssv_one (psv_ret pev_bl)) pssv_nil)))))))))
    (pssv_cons (psv_set 13 nd (pev_call G_unit_free runF_ok (hr.mono (by decide)) (by rfl) gm_unit_free kp_unit_free bi_unit_free (pav_cons (pev_var 2) (pav_nil (x := false)))))
    (pssv_cons (psv_if (ptv_cmp (op_eqD u64) os_eq (pev_var 2) (pev_tup (pav_consX pev_int (pav_consX (pev_tup (pav_nil (x := true))) (pav_nil (x := true))))) (nomark _)) (pssv_one (psv_if (ptv_cmp (op_neD u64) os_ne (pev_var 13) (pev_var 2) (nomark _)) (pssv_one (psv_ret pev_bl)) pssv_nil)) (pssv_cons (psv_set 14 nd (pev_op op_sub os_I pev_int (pev_op op_mulA os_mul pev_int (pev_callTy call_int1 cs_int (by rfl) z_int (by rfl) (pav_cons (pev_cmp op_lt os_B (pev_ixA u1 (pev_ixA u1 (pev_var 2) pev_int) pev_int) pev_int (nomark _)) (pav_nil (x := false)))))))
    (pssv_one (psv_if (ptv_cmp (op_neD u64) os_ne (pev_var 13) (pev_tup (pav_consX pev_int (pav_consX (pev_callTy call_tuple_of cs_tuple (by rfl) z_tuple (by rfl) (pav_cons (pev_lcV (own := [("number", 15)]) [15] rfl nd (piv_seq (pev_ixA u1 (pev_var 2) pev_int)) (blkOk_by (own := [("number", 15)]) (N := N_law) (sc := defScope sf_law) (by decide +kernel)) (fun _ _ _ _ _ => (pgv_name 15 nd)) (fun _ _ _ _ _ => ptsv_nil) (fun _ _ _ _ _ => (pev_op op_mulA os_mul (pev_var 14) (pev_var 15)))) (pav_nil (x := false)))) (pav_nil (x := true))))) (nomark _)) (pssv_one (psv_ret pev_bl)) pssv_nil))))
    (pssv_cons (psv_set 16 nd (pev_chk (pev_ixA u1 (pev_lst (pav_consX pev_int (pav_consX pev_int (pav_consX pev_int (pav_consX (pev_un un_neg us_neg pev_int) (pav_consX (pev_un un_neg us_neg pev_int) (pav_consX (pev_un un_neg us_neg pev_int) (pav_nil (x := true))))))))) (pev_callM 1 G__law_draw runF_ok (by decide) (hr.mono (by decide)) (by rfl) gm__law_draw kp__law_draw bi__law_draw (pav_cons pev_int (pav_nil (x := false)))))))
    (pssv_cons (psv_set 17 nd pev_dnew)
    (pssv_cons (psv_forD 4 PassesOwn.never rfl (piv_key 4) (pgv_name 8 nd) (pssv_one (psv_asg (pev_ixA u1 (pev_var 4) (pev_var 8)) (pgv_sub 17 u1 (pev_op op_mulA os_mul (pev_var 8) (pev_var 16))))))
    (pssv_cons (psv_if (ptv_cmp (op_neD u64) os_ne (pev_call G_spread runF_ok (hr.mono (by decide)) (by rfl) gm_spread kp_spread bi_spread (pav_cons (pev_var 2) (pav_cons (pev_var 16) (pav_nil (x := false))))) (pev_call G__law_poly runF_ok (hr.mono (by decide)) (by rfl) gm__law_poly kp__law_poly bi__law_poly (pav_cons (pev_var 17) (pav_nil (x := false)))) (nomark _)) (pssv_one (psv_ret pev_bl)) pssv_nil)
    (pssv_cons (psv_set 18 nd (pev_tup (pav_consX (pev_op op_mulA os_mul (pev_callB call_abs cs_abs (by rfl) z_abs (by rfl) (pav_cons (pev_ixA u1 (pev_var 2) pev_int) (pav_nil (x := false)))) (pev_callTy call_int1 cs_int (by rfl) z_int (by rfl) (pav_cons (pev_cmp (op_neD u64) os_ne (pev_var 2) (pev_tup (pav_consX pev_int (pav_consX (pev_tup (pav_nil (x := true))) (pav_nil (x := true))))) (nomark _)) (pav_nil (x := false))))) (pav_consX (pev_chk (pev_ixA u1 (pev_var 2) pev_int)) (pav_nil (x := true))))))
    (pssv_cons (psv_set 11 nd pev_dnew)
    (pssv_cons (psv_for PassesOwn.never rfl (piv_range1 (by rfl) z_range (pav_cons (pev_callB call_lenV cs_len (by rfl) z_len (by rfl) (pav_cons (pev_ixA u1 (pev_var 18) pev_int) (pav_nil (x := false)))) (pav_nil (x := false)))) (pgv_name 8 nd) (pssv_cons (psv_set 19 nd (pev_disp (ppv_cons pev_int (pev_chk (pev_ixA u1 (pev_ixA u1 (pev_var 18) pev_int) (pev_var 8))) ppv_nil)))
    (pssv_cons (psv_for PassesOwn.never rfl (piv_range1 (by rfl) z_range (pav_cons (pev_op op_addV os_add (pev_ixA u1 (pev_var 18) pev_int) (pev_var 8)) (pav_nil (x := false)))) (pgv_name 20 nd) (pssv_one (psv_set 19 nd (pev_call G__law_times runF_ok (hr.mono (by decide)) (by rfl) gm__law_times kp__law_times bi__law_times (pav_cons (pev_var 19) (pav_cons (pev_var 5) (pav_nil (x := false))))))))
    (pssv_one (psv_set 11 nd (pev_call G__law_plus runF_ok (hr.mono (by decide)) (by rfl) gm__law_plus kp__law_plus bi__law_plus (pav_cons (pev_var 11) (pav_cons (pev_var 19) (pav_nil (x := false))))))))))
    (pssv_cons (psv_if (ptv_cmp (op_neD u64) os_ne (pev_call G_composed runF_ok (hr.mono (by decide)) (by rfl) gm_composed kp_composed bi_composed (pav_cons (pev_var 18) (pav_cons (pev_var 3) (pav_nil (x := false))))) (pev_call G__law_poly runF_ok (hr.mono (by decide)) (by rfl) gm__law_poly kp__law_poly bi__law_poly (pav_cons (pev_var 11) (pav_nil (x := false)))) (nomark _)) (pssv_one (psv_ret pev_bl)) pssv_nil)
    (pssv_cons (psv_for PassesOwn.never rfl (piv_seq (pev_lst (pav_consX pev_int (pav_consX (pev_un un_neg us_neg pev_int) (pav_nil (x := true)))))) (pgv_name 15 nd) (pssv_cons (psv_set 21 nd pev_int)
    (pssv_cons (psv_forD 4 PassesOwn.never rfl (piv_key 4) (pgv_name 8 nd) (pssv_one (psv_set 21 nd (pev_op op_addV os_add (pev_var 21) (pev_op op_mulA os_mul (pev_ixA u1 (pev_var 4) (pev_var 8)) (pev_ixA u1 (pev_lst (pav_consX pev_int (pav_consX (pev_ali 15) (pav_nil (x := true))))) (pev_op op_modN os_mod (pev_callTy call_int1 cs_int (by rfl) z_int (by rfl) (pav_cons (pev_var 8) (pav_nil (x := false)))) pev_int)))))))
    (pssv_one (psv_if (ptv_cmp (op_neD u64) os_ne (pev_call G_value_at runF_ok (hr.mono (by decide)) (by rfl) gm_value_at kp_value_at bi_value_at (pav_cons (pev_var 2) (pav_cons (pev_var 15) (pav_nil (x := false))))) (pev_var 21) (nomark _)) (pssv_one (psv_ret pev_bl)) pssv_nil)))))
    (pssv_one (psv_ret (pev_call G__law_truth runF_ok (hr.mono (by decide)) (by rfl) gm__law_truth kp__law_truth bi__law_truth (pav_cons (pev_call G_is_palindrome runF_ok (hr.mono (by decide)) (by rfl) gm_is_palindrome kp_is_palindrome bi_is_palindrome (pav_cons (pev_var 2) (pav_nil (x := false)))) (pav_cons (pev_cmp (op_eqD u64) os_eq (pev_ixA u1 (pev_var 2) pev_int) (pev_revS (pev_ixA u1 (pev_var 2) pev_int)) (nomark _)) (pav_nil (x := false))))))))))))))))))))))))))))))
  case hw => decide
end
theorem all_mk {l : PySem.W.OpenLaw} {w : World} {K : PySem.W.Frag} {h : Heap} {mg : Str → Option Value} {fa : Addr} (X : K.In h) (G : h.Ns mainGlobals mg) (hfa : mg "law" = some (.ref fa))
    {oc0 kV0 dc0 pm0 cd0 ct0 : Value} {od0 an0 : Option Addr} {sl0 : Array (Option Value)} {f0 : Addr} {oc1 kV1 dc1 pm1 cd1 ct1 : Value} {od1 an1 : Option Addr} {sl1 : Array (Option Value)} {f1 : Addr} {oc2 kV2 dc2 pm2 cd2 ct2 : Value} {od2 an2 : Option Addr} {sl2 : Array (Option Value)} {f2 : Addr} {oc3 kV3 dc3 pm3 cd3 ct3 : Value} {od3 an3 : Option Addr} {sl3 : Array (Option Value)} {f3 : Addr} {oc4 kV4 dc4 pm4 cd4 ct4 : Value} {od4 an4 : Option Addr} {sl4 : Array (Option Value)} {f4 : Addr} {oc5 kV5 dc5 pm5 cd5 ct5 : Value} {od5 an5 : Option Addr} {sl5 : Array (Option Value)} {f5 : Addr} {oc6 kV6 dc6 pm6 cd6 ct6 : Value} {od6 an6 : Option Addr} {sl6 : Array (Option Value)} {f6 : Addr} {oc7 kV7 dc7 pm7 cd7 ct7 : Value} {od7 an7 : Option Addr} {sl7 : Array (Option Value)} {f7 : Addr} {oc8 kV8 dc8 pm8 cd8 ct8 : Value} {od8 an8 : Option Addr} {sl8 : Array (Option Value)} {f8 : Addr} {oc9 kV9 dc9 pm9 cd9 ct9 : Value} {od9 an9 : Option Addr} {sl9 : Array (Option Value)} {f9 : Addr} {oc10 kV10 dc10 pm10 cd10 ct10 : Value} {od10 an10 : Option Addr} {sl10 : Array (Option Value)} {f10 : Addr} {oc11 kV11 dc11 pm11 cd11 ct11 : Value} {od11 an11 : Option Addr} {sl11 : Array (Option Value)} {f11 : Addr} {oc12 kV12 dc12 pm12 cd12 ct12 : Value} {od12 an12 : Option Addr} {sl12 : Array (Option Value)} {f12 : Addr} {oc13 kV13 dc13 pm13 cd13 ct13 : Value} {od13 an13 : Option Addr} {sl13 : Array (Option Value)} {f13 : Addr} {oc14 kV14 dc14 pm14 cd14 ct14 : Value} {od14 an14 : Option Addr} {sl14 : Array (Option Value)} {f14 : Addr} {oc15 kV15 dc15 pm15 cd15 ct15 : Value} {od15 an15 : Option Addr} {sl15 : Array (Option Value)} {f15 : Addr} {oc16 kV16 dc16 pm16 cd16 ct16 : Value} {od16 an16 : Option Addr} {sl16 : Array (Option Value)} {f16 : Addr} {oc17 kV17 dc17 pm17 cd17 ct17 : Value} {od17 an17 : Option Addr} {sl17 : Array (Option Value)} {f17 : Addr} {oc18 kV18 dc18 pm18 cd18 ct18 : Value} {od18 an18 : Option Addr} {sl18 : Array (Option Value)} {f18 : Addr} {oc19 kV19 dc19 pm19 cd19 ct19 : Value} {od19 an19 : Option Addr} {sl19 : Array (Option Value)} {f19 : Addr} {oc20 kV20 dc20 pm20 cd20 ct20 : Value} {od20 an20 : Option Addr} {sl20 : Array (Option Value)} {f20 : Addr} {oc21 kV21 dc21 pm21 cd21 ct21 : Value} {od21 an21 : Option Addr} {sl21 : Array (Option Value)} {f21 : Addr} {oc22 kV22 dc22 pm22 cd22 ct22 : Value} {od22 an22 : Option Addr} {sl22 : Array (Option Value)} {f22 : Addr} {t_ZERO_1 : Tok} {g_ZERO_2 : Addr} {d_ZERO_2 : Option Addr} {n_ZERO_2 : Nat} {s_ZERO_2 : Array (Option Value)} {g_ZERO_0 : Addr} {d_ZERO_0 : Option Addr} {n_ZERO_0 : Nat} {s_ZERO_0 : Array (Option Value)}
    (a0 : PySem.W.nsIn K mainGlobals "normal" = some (some (.ref f0)))
    (l0 : K.lookup f0 = some ⟨oc0, od0, .func (PySem.W.fnOf "normal" "normal" (defArgs sf_normal) (defBody sf_normal) (defScope sf_normal) .none kV0 dc0 pm0 an0 cd0 ct0), sl0⟩)
    (c0 : PySem.W.codeIn K cd0 "normal" = true)
    (k0 : PySem.W.keepIn K (.ref f0) = true)
    (a1 : PySem.W.nsIn K mainGlobals "single" = some (some (.ref f1)))
    (l1 : K.lookup f1 = some ⟨oc1, od1, .func (PySem.W.fnOf "single" "single" (defArgs sf_single) (defBody sf_single) (defScope sf_single) .none kV1 dc1 pm1 an1 cd1 ct1), sl1⟩)
    (c1 : PySem.W.codeIn K cd1 "single" = true)
    (k1 : PySem.W.keepIn K (.ref f1) = true)
    (a2 : PySem.W.nsIn K mainGlobals "coefficient" = some (some (.ref f2)))
    (l2 : K.lookup f2 = some ⟨oc2, od2, .func (PySem.W.fnOf "coefficient" "coefficient" (defArgs sf_coefficient) (defBody sf_coefficient) (defScope sf_coefficient) .none kV2 dc2 pm2 an2 cd2 ct2), sl2⟩)
    (c2 : PySem.W.codeIn K cd2 "coefficient" = true)
    (k2 : PySem.W.keepIn K (.ref f2) = true)
    (a3 : PySem.W.nsIn K mainGlobals "plus" = some (some (.ref f3)))
    (l3 : K.lookup f3 = some ⟨oc3, od3, .func (PySem.W.fnOf "plus" "plus" (defArgs sf_plus) (defBody sf_plus) (defScope sf_plus) .none kV3 dc3 pm3 an3 cd3 ct3), sl3⟩)
    (c3 : PySem.W.codeIn K cd3 "plus" = true)
    (k3 : PySem.W.keepIn K (.ref f3) = true)
    (a4 : PySem.W.nsIn K mainGlobals "times" = some (some (.ref f4)))
    (l4 : K.lookup f4 = some ⟨oc4, od4, .func (PySem.W.fnOf "times" "times" (defArgs sf_times) (defBody sf_times) (defScope sf_times) .none kV4 dc4 pm4 an4 cd4 ct4), sl4⟩)
    (c4 : PySem.W.codeIn K cd4 "times" = true)
    (k4 : PySem.W.keepIn K (.ref f4) = true)
    (a5 : PySem.W.nsIn K mainGlobals "spread" = some (some (.ref f5)))
    (l5 : K.lookup f5 = some ⟨oc5, od5, .func (PySem.W.fnOf "spread" "spread" (defArgs sf_spread) (defBody sf_spread) (defScope sf_spread) .none kV5 dc5 pm5 an5 cd5 ct5), sl5⟩)
    (c5 : PySem.W.codeIn K cd5 "spread" = true)
    (k5 : PySem.W.keepIn K (.ref f5) = true)
    (a6 : PySem.W.nsIn K mainGlobals "from_terms" = some (some (.ref f6)))
    (l6 : K.lookup f6 = some ⟨oc6, od6, .func (PySem.W.fnOf "from_terms" "from_terms" (defArgs sf_from_terms) (defBody sf_from_terms) (defScope sf_from_terms) .none kV6 dc6 pm6 an6 cd6 ct6), sl6⟩)
    (c6 : PySem.W.codeIn K cd6 "from_terms" = true)
    (k6 : PySem.W.keepIn K (.ref f6) = true)
    (a7 : PySem.W.nsIn K mainGlobals "quotient" = some (some (.ref f7)))
    (l7 : K.lookup f7 = some ⟨oc7, od7, .func (PySem.W.fnOf "quotient" "quotient" (defArgs sf_quotient) (defBody sf_quotient) (defScope sf_quotient) .none kV7 dc7 pm7 an7 cd7 ct7), sl7⟩)
    (c7 : PySem.W.codeIn K cd7 "quotient" = true)
    (k7 : PySem.W.keepIn K (.ref f7) = true)
    (a8 : PySem.W.nsIn K mainGlobals "unit_free" = some (some (.ref f8)))
    (l8 : K.lookup f8 = some ⟨oc8, od8, .func (PySem.W.fnOf "unit_free" "unit_free" (defArgs sf_unit_free) (defBody sf_unit_free) (defScope sf_unit_free) .none kV8 dc8 pm8 an8 cd8 ct8), sl8⟩)
    (c8 : PySem.W.codeIn K cd8 "unit_free" = true)
    (k8 : PySem.W.keepIn K (.ref f8) = true)
    (a9 : PySem.W.nsIn K mainGlobals "value_at" = some (some (.ref f9)))
    (l9 : K.lookup f9 = some ⟨oc9, od9, .func (PySem.W.fnOf "value_at" "value_at" (defArgs sf_value_at) (defBody sf_value_at) (defScope sf_value_at) .none kV9 dc9 pm9 an9 cd9 ct9), sl9⟩)
    (c9 : PySem.W.codeIn K cd9 "value_at" = true)
    (k9 : PySem.W.keepIn K (.ref f9) = true)
    (a10 : PySem.W.nsIn K mainGlobals "composed" = some (some (.ref f10)))
    (l10 : K.lookup f10 = some ⟨oc10, od10, .func (PySem.W.fnOf "composed" "composed" (defArgs sf_composed) (defBody sf_composed) (defScope sf_composed) .none kV10 dc10 pm10 an10 cd10 ct10), sl10⟩)
    (c10 : PySem.W.codeIn K cd10 "composed" = true)
    (k10 : PySem.W.keepIn K (.ref f10) = true)
    (a11 : PySem.W.nsIn K mainGlobals "is_palindrome" = some (some (.ref f11)))
    (l11 : K.lookup f11 = some ⟨oc11, od11, .func (PySem.W.fnOf "is_palindrome" "is_palindrome" (defArgs sf_is_palindrome) (defBody sf_is_palindrome) (defScope sf_is_palindrome) .none kV11 dc11 pm11 an11 cd11 ct11), sl11⟩)
    (c11 : PySem.W.codeIn K cd11 "is_palindrome" = true)
    (k11 : PySem.W.keepIn K (.ref f11) = true)
    (a12 : PySem.W.nsIn K mainGlobals "_law_state" = some (some (.ref f12)))
    (l12 : K.lookup f12 = some ⟨oc12, od12, .func (PySem.W.fnOf "_law_state" "_law_state" (defArgs sf__law_state) (defBody sf__law_state) (defScope sf__law_state) .none kV12 dc12 pm12 an12 cd12 ct12), sl12⟩)
    (c12 : PySem.W.codeIn K cd12 "_law_state" = true)
    (k12 : PySem.W.keepIn K (.ref f12) = true)
    (a13 : PySem.W.nsIn K mainGlobals "_law_draw" = some (some (.ref f13)))
    (l13 : K.lookup f13 = some ⟨oc13, od13, .func (PySem.W.fnOf "_law_draw" "_law_draw" (defArgs sf__law_draw) (defBody sf__law_draw) (defScope sf__law_draw) .none kV13 dc13 pm13 an13 cd13 ct13), sl13⟩)
    (c13 : PySem.W.codeIn K cd13 "_law_draw" = true)
    (k13 : PySem.W.keepIn K (.ref f13) = true)
    (a14 : PySem.W.nsIn K mainGlobals "_law_truth" = some (some (.ref f14)))
    (l14 : K.lookup f14 = some ⟨oc14, od14, .func (PySem.W.fnOf "_law_truth" "_law_truth" (defArgs sf__law_truth) (defBody sf__law_truth) (defScope sf__law_truth) .none kV14 dc14 pm14 an14 cd14 ct14), sl14⟩)
    (c14 : PySem.W.codeIn K cd14 "_law_truth" = true)
    (k14 : PySem.W.keepIn K (.ref f14) = true)
    (a15 : PySem.W.nsIn K mainGlobals "_law_terms" = some (some (.ref f15)))
    (l15 : K.lookup f15 = some ⟨oc15, od15, .func (PySem.W.fnOf "_law_terms" "_law_terms" (defArgs sf__law_terms) (defBody sf__law_terms) (defScope sf__law_terms) .none kV15 dc15 pm15 an15 cd15 ct15), sl15⟩)
    (c15 : PySem.W.codeIn K cd15 "_law_terms" = true)
    (k15 : PySem.W.keepIn K (.ref f15) = true)
    (a16 : PySem.W.nsIn K mainGlobals "_law_poly" = some (some (.ref f16)))
    (l16 : K.lookup f16 = some ⟨oc16, od16, .func (PySem.W.fnOf "_law_poly" "_law_poly" (defArgs sf__law_poly) (defBody sf__law_poly) (defScope sf__law_poly) .none kV16 dc16 pm16 an16 cd16 ct16), sl16⟩)
    (c16 : PySem.W.codeIn K cd16 "_law_poly" = true)
    (k16 : PySem.W.keepIn K (.ref f16) = true)
    (a17 : PySem.W.nsIn K mainGlobals "_law_plus" = some (some (.ref f17)))
    (l17 : K.lookup f17 = some ⟨oc17, od17, .func (PySem.W.fnOf "_law_plus" "_law_plus" (defArgs sf__law_plus) (defBody sf__law_plus) (defScope sf__law_plus) .none kV17 dc17 pm17 an17 cd17 ct17), sl17⟩)
    (c17 : PySem.W.codeIn K cd17 "_law_plus" = true)
    (k17 : PySem.W.keepIn K (.ref f17) = true)
    (a18 : PySem.W.nsIn K mainGlobals "_law_times" = some (some (.ref f18)))
    (l18 : K.lookup f18 = some ⟨oc18, od18, .func (PySem.W.fnOf "_law_times" "_law_times" (defArgs sf__law_times) (defBody sf__law_times) (defScope sf__law_times) .none kV18 dc18 pm18 an18 cd18 ct18), sl18⟩)
    (c18 : PySem.W.codeIn K cd18 "_law_times" = true)
    (k18 : PySem.W.keepIn K (.ref f18) = true)
    (a19 : PySem.W.nsIn K mainGlobals "_law_is_poly" = some (some (.ref f19)))
    (l19 : K.lookup f19 = some ⟨oc19, od19, .func (PySem.W.fnOf "_law_is_poly" "_law_is_poly" (defArgs sf__law_is_poly) (defBody sf__law_is_poly) (defScope sf__law_is_poly) .none kV19 dc19 pm19 an19 cd19 ct19), sl19⟩)
    (c19 : PySem.W.codeIn K cd19 "_law_is_poly" = true)
    (k19 : PySem.W.keepIn K (.ref f19) = true)
    (a20 : PySem.W.nsIn K mainGlobals "_law_drawn_poly" = some (some (.ref f20)))
    (l20 : K.lookup f20 = some ⟨oc20, od20, .func (PySem.W.fnOf "_law_drawn_poly" "_law_drawn_poly" (defArgs sf__law_drawn_poly) (defBody sf__law_drawn_poly) (defScope sf__law_drawn_poly) .none kV20 dc20 pm20 an20 cd20 ct20), sl20⟩)
    (c20 : PySem.W.codeIn K cd20 "_law_drawn_poly" = true)
    (k20 : PySem.W.keepIn K (.ref f20) = true)
    (a21 : PySem.W.nsIn K mainGlobals "_law_divided" = some (some (.ref f21)))
    (l21 : K.lookup f21 = some ⟨oc21, od21, .func (PySem.W.fnOf "_law_divided" "_law_divided" (defArgs sf__law_divided) (defBody sf__law_divided) (defScope sf__law_divided) .none kV21 dc21 pm21 an21 cd21 ct21), sl21⟩)
    (c21 : PySem.W.codeIn K cd21 "_law_divided" = true)
    (k21 : PySem.W.keepIn K (.ref f21) = true)
    (a22 : PySem.W.nsIn K mainGlobals "law" = some (some (.ref f22)))
    (l22 : K.lookup f22 = some ⟨oc22, od22, .func (PySem.W.fnOf "law" "law" (defArgs sf_law) (defBody sf_law) (defScope sf_law) .none kV22 dc22 pm22 an22 cd22 ct22), sl22⟩)
    (c22 : PySem.W.codeIn K cd22 "law" = true)
    (k22 : PySem.W.keepIn K (.ref f22) = true)
    (z_abs : PySem.W.nsIn K mainGlobals "abs" = some none)
    (z_any : PySem.W.nsIn K mainGlobals "any" = some none)
    (z_bool : PySem.W.nsIn K mainGlobals "bool" = some none)
    (z_dict : PySem.W.nsIn K mainGlobals "dict" = some none)
    (z_enumerate : PySem.W.nsIn K mainGlobals "enumerate" = some none)
    (z_int : PySem.W.nsIn K mainGlobals "int" = some none)
    (z_isinstance : PySem.W.nsIn K mainGlobals "isinstance" = some none)
    (z_len : PySem.W.nsIn K mainGlobals "len" = some none)
    (z_list : PySem.W.nsIn K mainGlobals "list" = some none)
    (z_max : PySem.W.nsIn K mainGlobals "max" = some none)
    (z_min : PySem.W.nsIn K mainGlobals "min" = some none)
    (z_range : PySem.W.nsIn K mainGlobals "range" = some none)
    (z_reversed : PySem.W.nsIn K mainGlobals "reversed" = some none)
    (z_sorted : PySem.W.nsIn K mainGlobals "sorted" = some none)
    (z_tuple : PySem.W.nsIn K mainGlobals "tuple" = some none)
    (b_ZERO : PySem.W.nsIn K mainGlobals "ZERO" = some (some (.ref g_ZERO_0)))
    (q_ZERO_0 : K.lookup g_ZERO_0 = some ⟨.type "tuple", d_ZERO_0, .seq [(.int 0 t_ZERO_1), (.ref g_ZERO_2)].toArray n_ZERO_0, s_ZERO_0⟩)
    (q_ZERO_2 : K.lookup g_ZERO_2 = some ⟨.type "tuple", d_ZERO_2, .seq [].toArray n_ZERO_2, s_ZERO_2⟩) :
    ∃ fd : FuncData, (∀ (s : Shared) (v : Value), BindsTo s fd ⟨[v], []⟩ [("script", v)]) ∧ ∀ base : Heap, K.In base → base.Ns mainGlobals mg → FnOk l.prog w K mg base CX0 4 fa fd ["script"] (spV K 1 0 F_law) := by
  have e := hfa.symm.trans (PySem.W.mg_of X G a22)
  cases e
  have F0 := fun_mk (st := sf_normal) l0 c0 k0
  have bi0 := F0.binds (ps := ["least", "numbers"]) fun _ _ _ _ _ _ us hl => match us, hl with | [_, _], _ => rfl
  have F1 := fun_mk (st := sf_single) l1 c1 k1
  have bi1 := F1.binds (ps := ["number", "exponent"]) fun _ _ _ _ _ _ us hl => match us, hl with | [_, _], _ => rfl
  have F2 := fun_mk (st := sf_coefficient) l2 c2 k2
  have bi2 := F2.binds (ps := ["one", "exponent"]) fun _ _ _ _ _ _ us hl => match us, hl with | [_, _], _ => rfl
  have F3 := fun_mk (st := sf_plus) l3 c3 k3
  have bi3 := F3.binds (ps := ["one", "other"]) fun _ _ _ _ _ _ us hl => match us, hl with | [_, _], _ => rfl
  have F4 := fun_mk (st := sf_times) l4 c4 k4
  have bi4 := F4.binds (ps := ["one", "other"]) fun _ _ _ _ _ _ us hl => match us, hl with | [_, _], _ => rfl
  have F5 := fun_mk (st := sf_spread) l5 c5 k5
  have bi5 := F5.binds (ps := ["one", "step"]) fun _ _ _ _ _ _ us hl => match us, hl with | [_, _], _ => rfl
  have F6 := fun_mk (st := sf_from_terms) l6 c6 k6
  have bi6 := F6.binds (ps := ["terms"]) fun _ _ _ _ _ _ us hl => match us, hl with | [_], _ => rfl
  have F7 := fun_mk (st := sf_quotient) l7 c7 k7
  have bi7 := F7.binds (ps := ["one", "other"]) fun _ _ _ _ _ _ us hl => match us, hl with | [_, _], _ => rfl
  have F8 := fun_mk (st := sf_unit_free) l8 c8 k8
  have bi8 := F8.binds (ps := ["one"]) fun _ _ _ _ _ _ us hl => match us, hl with | [_], _ => rfl
  have F9 := fun_mk (st := sf_value_at) l9 c9 k9
  have bi9 := F9.binds (ps := ["one", "number"]) fun _ _ _ _ _ _ us hl => match us, hl with | [_, _], _ => rfl
  have F10 := fun_mk (st := sf_composed) l10 c10 k10
  have bi10 := F10.binds (ps := ["one", "other"]) fun _ _ _ _ _ _ us hl => match us, hl with | [_, _], _ => rfl
  have F11 := fun_mk (st := sf_is_palindrome) l11 c11 k11
  have bi11 := F11.binds (ps := ["one"]) fun _ _ _ _ _ _ us hl => match us, hl with | [_], _ => rfl
  have F12 := fun_mk (st := sf__law_state) l12 c12 k12
  have bi12 := F12.binds (ps := ["script"]) fun _ _ _ _ _ _ us hl => match us, hl with | [_], _ => rfl
  have F13 := fun_mk (st := sf__law_draw) l13 c13 k13
  have bi13 := F13.binds (ps := ["state", "limit"]) fun _ _ _ _ _ _ us hl => match us, hl with | [_, _], _ => rfl
  have F14 := fun_mk (st := sf__law_truth) l14 c14 k14
  have bi14 := F14.binds (ps := ["told", "due"]) fun _ _ _ _ _ _ us hl => match us, hl with | [_, _], _ => rfl
  have F15 := fun_mk (st := sf__law_terms) l15 c15 k15
  have bi15 := F15.binds (ps := ["one"]) fun _ _ _ _ _ _ us hl => match us, hl with | [_], _ => rfl
  have F16 := fun_mk (st := sf__law_poly) l16 c16 k16
  have bi16 := F16.binds (ps := ["terms"]) fun _ _ _ _ _ _ us hl => match us, hl with | [_], _ => rfl
  have F17 := fun_mk (st := sf__law_plus) l17 c17 k17
  have bi17 := F17.binds (ps := ["one", "two"]) fun _ _ _ _ _ _ us hl => match us, hl with | [_, _], _ => rfl
  have F18 := fun_mk (st := sf__law_times) l18 c18 k18
  have bi18 := F18.binds (ps := ["one", "two"]) fun _ _ _ _ _ _ us hl => match us, hl with | [_, _], _ => rfl
  have F19 := fun_mk (st := sf__law_is_poly) l19 c19 k19
  have bi19 := F19.binds (ps := ["value"]) fun _ _ _ _ _ _ us hl => match us, hl with | [_], _ => rfl
  have F20 := fun_mk (st := sf__law_drawn_poly) l20 c20 k20
  have bi20 := F20.binds (ps := ["state", "most"]) fun _ _ _ _ _ _ us hl => match us, hl with | [_, _], _ => rfl
  have F21 := fun_mk (st := sf__law_divided) l21 c21 k21
  have bi21 := F21.binds (ps := ["one", "two"]) fun _ _ _ _ _ _ us hl => match us, hl with | [_, _], _ => rfl
  have F22 := fun_mk (st := sf_law) l22 c22 k22
  have bi22 := F22.binds (ps := ["script"]) fun _ _ _ _ _ _ us hl => match us, hl with | [_], _ => rfl
  refine ⟨PySem.W.fnOf "law" "law" (defArgs sf_law) (defBody sf_law) (defScope sf_law) .none kV22 dc22 pm22 an22 cd22 ct22, fun s v => .of_eq rfl, fun base _ _ => ?_⟩
  have H12 := ok__law_state (P := l.prog) (w := w) (K := K) (mg := mg) (base := base) F12 (PySem.W.mg_none_of X G z_list)
  have H13 := ok__law_draw (P := l.prog) (w := w) (K := K) (mg := mg) (base := base) F13 (PySem.W.mg_none_of X G z_int) (PySem.W.mg_none_of X G z_len)
  have H16 := ok__law_poly (P := l.prog) (w := w) (K := K) (mg := mg) (base := base) F16 (PySem.W.mg_none_of X G z_len) (PySem.W.mg_none_of X G z_range) (PySem.W.mg_none_of X G z_sorted) (PySem.W.mg_none_of X G z_tuple)
  have H20 := ok__law_drawn_poly (P := l.prog) (w := w) (K := K) (mg := mg) (base := base) F20 (PySem.W.mg_none_of X G z_range) H13 bi13 (PySem.W.mg_of X G a13) F13.kp H16 bi16 (PySem.W.mg_of X G a16) F16.kp
  have H15 := ok__law_terms (P := l.prog) (w := w) (K := K) (mg := mg) (base := base) F15 (PySem.W.mg_none_of X G z_len) (PySem.W.mg_none_of X G z_range)
  have H18 := ok__law_times (P := l.prog) (w := w) (K := K) (mg := mg) (base := base) F18 (PySem.W.mg_none_of X G z_list)
  have H0 := ok_normal (P := l.prog) (w := w) (K := K) (mg := mg) (base := base) F0 (PySem.W.mg_none_of X G z_len) (PySem.W.mg_none_of X G z_tuple) (PySem.W.mg_of X G b_ZERO) (GD.tup q_ZERO_0 (by simp) (gds_cons GD.int (gds_cons (GD.tup q_ZERO_2 (by simp) gds_nil) gds_nil)))
  have H7 := ok_quotient (P := l.prog) (w := w) (K := K) (mg := mg) (base := base) F7 (PySem.W.mg_none_of X G z_any) (PySem.W.mg_none_of X G z_enumerate) (PySem.W.mg_none_of X G z_len) (PySem.W.mg_none_of X G z_list) (PySem.W.mg_none_of X G z_range) (PySem.W.mg_of X G b_ZERO) (GD.tup q_ZERO_0 (by simp) (gds_cons GD.int (gds_cons (GD.tup q_ZERO_2 (by simp) gds_nil) gds_nil))) H0 bi0 (PySem.W.mg_of X G a0) F0.kp
  have H19 := ok__law_is_poly (P := l.prog) (w := w) (K := K) (mg := mg) (base := base) F19 (PySem.W.mg_none_of X G z_bool) (PySem.W.mg_none_of X G z_int) (PySem.W.mg_none_of X G z_isinstance) (PySem.W.mg_none_of X G z_len) (PySem.W.mg_none_of X G z_tuple)
  have H17 := ok__law_plus (P := l.prog) (w := w) (K := K) (mg := mg) (base := base) F17 (PySem.W.mg_none_of X G z_dict) (PySem.W.mg_none_of X G z_list)
  have H21 := ok__law_divided (P := l.prog) (w := w) (K := K) (mg := mg) (base := base) F21 (PySem.W.mg_none_of X G z_dict) (PySem.W.mg_none_of X G z_int) (PySem.W.mg_none_of X G z_len) (PySem.W.mg_none_of X G z_max) (PySem.W.mg_none_of X G z_min) (PySem.W.mg_none_of X G z_range) H17 bi17 (PySem.W.mg_of X G a17) F17.kp
  have H4 := ok_times (P := l.prog) (w := w) (K := K) (mg := mg) (base := base) F4 (PySem.W.mg_none_of X G z_enumerate) (PySem.W.mg_none_of X G z_len) (PySem.W.mg_of X G b_ZERO) (GD.tup q_ZERO_0 (by simp) (gds_cons GD.int (gds_cons (GD.tup q_ZERO_2 (by simp) gds_nil) gds_nil))) H0 bi0 (PySem.W.mg_of X G a0) F0.kp
  have H8 := ok_unit_free (P := l.prog) (w := w) (K := K) (mg := mg) (base := base) F8 (PySem.W.mg_none_of X G z_tuple) (PySem.W.mg_of X G b_ZERO) (GD.tup q_ZERO_0 (by simp) (gds_cons GD.int (gds_cons (GD.tup q_ZERO_2 (by simp) gds_nil) gds_nil)))
  have H6 := ok_from_terms (P := l.prog) (w := w) (K := K) (mg := mg) (base := base) F6 (PySem.W.mg_none_of X G z_max) (PySem.W.mg_none_of X G z_min) (PySem.W.mg_none_of X G z_range) (PySem.W.mg_of X G b_ZERO) (GD.tup q_ZERO_0 (by simp) (gds_cons GD.int (gds_cons (GD.tup q_ZERO_2 (by simp) gds_nil) gds_nil))) H0 bi0 (PySem.W.mg_of X G a0) F0.kp
  have H5 := ok_spread (P := l.prog) (w := w) (K := K) (mg := mg) (base := base) F5 (PySem.W.mg_none_of X G z_enumerate) H6 bi6 (PySem.W.mg_of X G a6) F6.kp
  have H2 := ok_coefficient (P := l.prog) (w := w) (K := K) (mg := mg) (base := base) F2 (PySem.W.mg_none_of X G z_len)
  have H3 := ok_plus (P := l.prog) (w := w) (K := K) (mg := mg) (base := base) F3 (PySem.W.mg_none_of X G z_len) (PySem.W.mg_none_of X G z_max) (PySem.W.mg_none_of X G z_min) (PySem.W.mg_none_of X G z_range) (PySem.W.mg_of X G b_ZERO) (GD.tup q_ZERO_0 (by simp) (gds_cons GD.int (gds_cons (GD.tup q_ZERO_2 (by simp) gds_nil) gds_nil))) H0 bi0 (PySem.W.mg_of X G a0) F0.kp H2 bi2 (PySem.W.mg_of X G a2) F2.kp
  have H1 := ok_single (P := l.prog) (w := w) (K := K) (mg := mg) (base := base) F1 H0 bi0 (PySem.W.mg_of X G a0) F0.kp
  have H10 := ok_composed (P := l.prog) (w := w) (K := K) (mg := mg) (base := base) F10 (PySem.W.mg_none_of X G z_len) (PySem.W.mg_none_of X G z_range) (PySem.W.mg_of X G b_ZERO) (GD.tup q_ZERO_0 (by simp) (gds_cons GD.int (gds_cons (GD.tup q_ZERO_2 (by simp) gds_nil) gds_nil))) H3 bi3 (PySem.W.mg_of X G a3) F3.kp H4 bi4 (PySem.W.mg_of X G a4) F4.kp H1 bi1 (PySem.W.mg_of X G a1) F1.kp H2 bi2 (PySem.W.mg_of X G a2) F2.kp
  have H9 := ok_value_at (P := l.prog) (w := w) (K := K) (mg := mg) (base := base) F9 (PySem.W.mg_none_of X G z_reversed)
  have H14 := ok__law_truth (P := l.prog) (w := w) (K := K) (mg := mg) (base := base) F14
  have H11 := ok_is_palindrome (P := l.prog) (w := w) (K := K) (mg := mg) (base := base) F11 (PySem.W.mg_none_of X G z_reversed) (PySem.W.mg_none_of X G z_tuple)
  have H22 := ok_law (P := l.prog) (w := w) (K := K) (mg := mg) (base := base) F22 (PySem.W.mg_none_of X G z_abs) (PySem.W.mg_none_of X G z_dict) (PySem.W.mg_none_of X G z_int) (PySem.W.mg_none_of X G z_len) (PySem.W.mg_none_of X G z_range) (PySem.W.mg_none_of X G z_tuple) H12 bi12 (PySem.W.mg_of X G a12) F12.kp H20 bi20 (PySem.W.mg_of X G a20) F20.kp H13 bi13 (PySem.W.mg_of X G a13) F13.kp H15 bi15 (PySem.W.mg_of X G a15) F15.kp H16 bi16 (PySem.W.mg_of X G a16) F16.kp H18 bi18 (PySem.W.mg_of X G a18) F18.kp H7 bi7 (PySem.W.mg_of X G a7) F7.kp H19 bi19 (PySem.W.mg_of X G a19) F19.kp H21 bi21 (PySem.W.mg_of X G a21) F21.kp H4 bi4 (PySem.W.mg_of X G a4) F4.kp H8 bi8 (PySem.W.mg_of X G a8) F8.kp H5 bi5 (PySem.W.mg_of X G a5) F5.kp H17 bi17 (PySem.W.mg_of X G a17) F17.kp H10 bi10 (PySem.W.mg_of X G a10) F10.kp H9 bi9 (PySem.W.mg_of X G a9) F9.kp H14 bi14 (PySem.W.mg_of X G a14) F14.kp H11 bi11 (PySem.W.mg_of X G a11) F11.kp
  exact H22
end G02
namespace Vl
open PySem PySem.Spec PyProof.Rows L2
/-! ### running a mirror: each construct at an Env -/
@[simp] theorem chk_r (f : M D) (ρ : Env) : chk f ρ = ((f ρ).bind fun p => if p.1.noOwn = true then some p else none : Option (D × Env)) := rfl
@[simp] theorem fAli_r (i : Nat) (ρ : Env) : fAli i ρ = ((Env.at ρ i).bind fun d => if d.noOwn = true then some (d, ρ) else some (d.frz, ρ.set i (some d.frz)) : Option (D × Env)) := rfl
@[simp] theorem fAnd_r (fa fb : M Bool) (ρ : Env) : fAnd fa fb ρ = ((fa ρ).bind fun p => if p.1 = true then fb p.2 else some (false, p.2) : Option (Bool × Env)) := rfl
@[simp] theorem fAndV_r (fa fb : M D) (ρ : Env) : fAndV fa fb ρ = ((fB fa ρ).bind fun p => if p.1 = true then fb p.2 else some (.bl false, p.2) : Option (D × Env)) := rfl
@[simp] theorem fB_r (f : M D) (ρ : Env) : fB f ρ = ((f ρ).bind fun p => match p.1 with
  | .bl b => some (b, p.2)
  | _ => none : Option (Bool × Env)) := rfl
@[simp] theorem fC_r (d : D) (ρ : Env) : fC d ρ = (some (d, ρ) : Option (D × Env)) := rfl
@[simp] theorem fCall_r (F : FD) (fr : M (List D)) (ρ : Env) : fCall F fr ρ = ((fr ρ).bind fun p => (F (D.frzL p.1)).bind fun r => if (r.1.noFz || D.noOwnL p.1) = true then some (r.1, p.2) else none : Option (D × Env)) := rfl
@[simp] theorem fCallM_r (F : FD) (i : Nat) (fr : M (List D)) (ρ : Env) : fCallM F i fr ρ = ((Env.at ρ i).bind fun _ => (fr ρ).bind fun p => (Env.at p.2 i).bind fun o => if D.noOwnL p.1 = true then (F (o :: p.1)).bind fun r => match r.2 with
    | [o'] => some (r.1, p.2.set i (some o'))
    | _ => none
  else none : Option (D × Env)) := rfl
@[simp] theorem fChain_r (O1 T2 O2 T3 : List Nat) (g g' : D → D → Option D) (fa fb fc : M D) (ρ : Env) : fChain O1 T2 O2 T3 g g' fa fb fc ρ = ((fa ρ).bind fun p => (fb p.2).bind fun q => if safe O1 T2 p.1 = true then (g p.1 q.1).bind fun z => match z with
    | .bl true => (fc q.2).bind fun w => if safe O2 T3 q.1 = true then (g' q.1 w.1).bind fun d => some (d, w.2) else none
    | .bl false => some (.bl false, q.2)
    | _ => none
  else none : Option (D × Env)) := rfl
@[simp] theorem fCl_r (g : List D → Option D) (fr : M (List D)) (ρ : Env) : fCl g fr ρ = ((fr ρ).bind fun p => (g p.1).bind fun d => some (d, p.2) : Option (D × Env)) := rfl
@[simp] theorem fComp_r (vs : List Nat) (fi : M (List D)) (g : D → Env → Option Env) (ft : M Bool) (fe : M D) (ρ : Env) : fComp vs fi g ft fe ρ = ((fi ρ).bind fun p => if ownOk p.2 vs = true then (compL vs g ft fe p.1 p.2 []).bind fun q => some (.lst true q.1, backE p.2 q.2 vs) else none : Option (D × Env)) := rfl
@[simp] theorem fComp2_r (vs vs1 : List Nat) (fi : M (List D)) (g : D → Env → Option Env) (ft : M Bool) (fi1 : M (List D)) (g1 : D → Env → Option Env) (ft1 : M Bool) (fe : M D) (ρ : Env) : fComp2 vs vs1 fi g ft fi1 g1 ft1 fe ρ = ((fi ρ).bind fun p => if ownOk p.2 vs = true then (compL2 vs vs1 g ft fi1 g1 ft1 fe p.1 p.2 []).bind fun q => some (.lst true q.1, backE p.2 q.2 vs) else none : Option (D × Env)) := rfl
@[simp] theorem fCons_r (O1 T2 : List Nat) (fa : M D) (fr : M (List D)) (ρ : Env) : fCons O1 T2 fa fr ρ = ((fa ρ).bind fun p => (fr p.2).bind fun q => if safe O1 T2 p.1 = true then some (p.1 :: q.1, q.2) else none : Option ((List D) × Env)) := rfl
@[simp] theorem fDisp_r (ps : List (M D × M D)) (ρ : Env) : fDisp ps ρ = ((fPairs ps ρ).bind fun p => some (.dct true false (p.1.foldl (fun acc kv => putD acc kv.1 kv.2) []), p.2) : Option (D × Env)) := rfl
@[simp] theorem fDk_r (i : Nat) (f : M D) (ρ : Env) : fDk i f ρ = ((fzSlot i ρ).bind f : Option (D × Env)) := rfl
@[simp] theorem fDnew_r  (ρ : Env) : fDnew  ρ = (some (.dct true false [], ρ) : Option (D × Env)) := rfl
@[simp] theorem fDpop_r (i : Nat) (fk : M D) (ρ : Env) : fDpop i fk ρ = ((Env.at ρ i).bind fun o => match o with
  | .dct _ false _ => (fk ρ).bind fun p => (Env.at p.2 i).bind fun o' => (gDpop o' p.1).bind fun q => some (q.1, p.2.set i (some q.2))
  | _ => none : Option (D × Env)) := rfl
@[simp] theorem fFz_r (f : M D) (ρ : Env) : fFz f ρ = ((f ρ).bind fun p => some (p.1.frz, p.2) : Option (D × Env)) := rfl
@[simp] theorem fGet2_r (O0 T1 T2 : List Nat) (fo fk fx : M D) (ρ : Env) : fGet2 O0 T1 T2 fo fk fx ρ = ((fo ρ).bind fun p => (fk p.2).bind fun q => (fx q.2).bind fun r => if (safe O0 (T1 ++ T2) p.1 && q.1.noOwn && r.1.noOwn) = true then (gGet2 p.1 q.1 r.1).bind fun d => if d.noOwn = true then some (d, r.2) else none else none : Option (D × Env)) := rfl
@[simp] theorem fIf_r (ft : M Bool) (fa fb : M D) (ρ : Env) : fIf ft fa fb ρ = ((ft ρ).bind fun p => if p.1 = true then fa p.2 else fb p.2 : Option (D × Env)) := rfl
@[simp] theorem fIsN_r (c : String) (f : M D) (ρ : Env) : fIsN c f ρ = ((f ρ).bind fun p => if notLk p.1 = true then (kitB (tagOf p.1) c).bind fun b => some (.bl b, p.2) else none : Option (D × Env)) := rfl
@[simp] theorem fLst_r (fr : M (List D)) (ρ : Env) : fLst fr ρ = ((fr ρ).bind fun p => if szOk p.1.length = true then some (.lst true p.1, p.2) else none : Option (D × Env)) := rfl
@[simp] theorem fLstRg_r (fr : M (Int × Int)) (ρ : Env) : fLstRg fr ρ = ((fr ρ).bind fun p => if okRg p.1.1 p.1.2 = true then some (.lst true (rgItems p.1.1 (p.1.2 - p.1.1).toNat), p.2) else none : Option (D × Env)) := rfl
@[simp] theorem fMov_r (i : Nat) (ρ : Env) : fMov i ρ = ((Env.at ρ i).bind fun d => some (d, ρ.set i none) : Option (D × Env)) := rfl
@[simp] theorem fMut_r (i : Nat) (ty : String) (g : D → List D → Option (D × D)) (fr : M (List D)) (ρ : Env) : fMut i ty g fr ρ = ((Env.at ρ i).bind fun o => if tyIs ty o = true then (fr ρ).bind fun p => (Env.at p.2 i).bind fun o' => (g o' p.1).bind fun q => some (q.1, p.2.set i (some q.2)) else none : Option (D × Env)) := rfl
@[simp] theorem fNil_r  (ρ : Env) : fNil  ρ = (some ([], ρ) : Option ((List D) × Env)) := rfl
@[simp] theorem fNot_r (fa : M Bool) (ρ : Env) : fNot fa ρ = ((fa ρ).bind fun p => some (!p.1, p.2) : Option (Bool × Env)) := rfl
@[simp] theorem fNotV_r (fa : M D) (ρ : Env) : fNotV fa ρ = ((fB fa ρ).bind fun p => some (.bl (!p.1), p.2) : Option (D × Env)) := rfl
@[simp] theorem fOp_r (O1 T2 : List Nat) (g : D → D → Option D) (fa fb : M D) (ρ : Env) : fOp O1 T2 g fa fb ρ = ((fa ρ).bind fun p => (fb p.2).bind fun q => if safe O1 T2 p.1 = true then (g p.1 q.1).bind fun d => some (d, q.2) else none : Option (D × Env)) := rfl
@[simp] theorem fOr_r (fa fb : M Bool) (ρ : Env) : fOr fa fb ρ = ((fa ρ).bind fun p => if p.1 = true then some (true, p.2) else fb p.2 : Option (Bool × Env)) := rfl
@[simp] theorem fOrV_r (fa fb : M D) (ρ : Env) : fOrV fa fb ρ = ((fB fa ρ).bind fun p => if p.1 = true then some (.bl true, p.2) else fb p.2 : Option (D × Env)) := rfl
@[simp] theorem fSl_r (O1 T2 : List Nat) (f : M D) (fl fh : M (Option Int)) (ρ : Env) : fSl O1 T2 f fl fh ρ = ((f ρ).bind fun p => (fl p.2).bind fun l => (fh l.2).bind fun h => if safe O1 T2 p.1 = true then (gSl p.1 l.1 h.1).bind fun d => some (d, h.2) else none : Option (D × Env)) := rfl
@[simp] theorem fRevS_r (f : M D) (ρ : Env) : fRevS f ρ = ((f ρ).bind fun p => (gRevS p.1).bind fun d => some (d, p.2) : Option (D × Env)) := rfl
@[simp] theorem fTr_r (f : M D) (ρ : Env) : fTr f ρ = ((f ρ).bind fun p => (truth p.1).bind fun b => some (b, p.2) : Option (Bool × Env)) := rfl
@[simp] theorem fTup_r (fr : M (List D)) (ρ : Env) : fTup fr ρ = ((fr ρ).bind fun p => if szOk p.1.length = true then some (.tup p.1, p.2) else none : Option (D × Env)) := rfl
@[simp] theorem fTupRev_r (f : M D) (ρ : Env) : fTupRev f ρ = ((f ρ).bind fun p => (itemsOf p.1).bind fun l => some (.tup l.reverse, p.2) : Option (D × Env)) := rfl
@[simp] theorem fTupRg_r (fr : M (Int × Int)) (ρ : Env) : fTupRg fr ρ = ((fr ρ).bind fun p => if okRg p.1.1 p.1.2 = true then some (.tup (rgItems p.1.1 (p.1.2 - p.1.1).toNat), p.2) else none : Option (D × Env)) := rfl
@[simp] theorem fTupRg3_r (fr : M (List D)) (ρ : Env) : fTupRg3 fr ρ = ((fr ρ).bind fun p => (downOf p.1).bind fun q => if decide (q.2 ≤ 100000) = true then some (.tup (rgDown q.1 q.2), p.2) else none : Option (D × Env)) := rfl
@[simp] theorem fUn_r (g : D → Option D) (fa : M D) (ρ : Env) : fUn g fa ρ = ((fa ρ).bind fun p => (g p.1).bind fun d => some (d, p.2) : Option (D × Env)) := rfl
@[simp] theorem fVal_r (i : Nat) (ρ : Env) : fVal i ρ = ((Env.at ρ i).bind fun d => if d.noOwn = true then some (d, ρ) else none : Option (D × Env)) := rfl
@[simp] theorem fVar_r (i : Nat) (ρ : Env) : fVar i ρ = ((Env.at ρ i).bind fun d => some (d, ρ) : Option (D × Env)) := rfl
@[simp] theorem fYes_r  (ρ : Env) : fYes  ρ = (some (true, ρ) : Option (Bool × Env)) := rfl
@[simp] theorem iEnm_r (f : M D) (ρ : Env) : iEnm f ρ = ((f ρ).bind fun p => (itemsOf p.1).bind fun l => some (enumD 0 l, p.2) : Option ((List D) × Env)) := rfl
@[simp] theorem iKy_r (i : Nat) (ρ : Env) : iKy i ρ = ((Env.at ρ i).bind fun d => match d with
  | .dct false _ kvs => some (kvs.map (·.1), ρ)
  | _ => none : Option ((List D) × Env)) := rfl
@[simp] theorem iRev_r (f : M D) (ρ : Env) : iRev f ρ = ((f ρ).bind fun p => (itemsOf p.1).bind fun l => some (l.reverse, p.2) : Option ((List D) × Env)) := rfl
@[simp] theorem iRg1_r (fr : M (List D)) (ρ : Env) : iRg1 fr ρ = ((fr ρ).bind fun p => match p.1 with
  | [.int j] => if okR j = true then some (rgItems 0 j.toNat, p.2) else none
  | _ => none : Option ((List D) × Env)) := rfl
@[simp] theorem iRg2_r (fr : M (List D)) (ρ : Env) : iRg2 fr ρ = ((fr ρ).bind fun p => match p.1 with
  | [.int i, .int j] => if (okR i && okR j) = true then some (rgItems i (j - i).toNat, p.2) else none
  | _ => none : Option ((List D) × Env)) := rfl
@[simp] theorem iRg3_r (fr : M (List D)) (ρ : Env) : iRg3 fr ρ = ((fr ρ).bind fun p => (downOf p.1).bind fun q => some (rgDown q.1 q.2, p.2) : Option ((List D) × Env)) := rfl
@[simp] theorem iSeq_r (f : M D) (ρ : Env) : iSeq f ρ = ((f ρ).bind fun p => (itemsOf p.1).bind fun l => some (l, p.2) : Option ((List D) × Env)) := rfl
@[simp] theorem iSeqR_r (f : M D) (ρ : Env) : iSeqR f ρ = ((f ρ).bind fun p => if p.1.noOwn = true then (itemsOf p.1).bind fun l => some (l, p.2) else none : Option ((List D) × Env)) := rfl
@[simp] theorem oNone_r  (ρ : Env) : oNone  ρ = (some (none, ρ) : Option ((Option Int) × Env)) := rfl
@[simp] theorem oSome_r (f : M D) (ρ : Env) : oSome f ρ = ((f ρ).bind fun p => match p.1 with
  | .int i => some (some i, p.2)
  | _ => none : Option ((Option Int) × Env)) := rfl
@[simp] theorem rRg1_r (f : M D) (ρ : Env) : rRg1 f ρ = ((f ρ).bind fun p => match p.1 with
  | .int n => some ((0, n), p.2)
  | _ => none : Option ((Int × Int) × Env)) := rfl
@[simp] theorem rRg2_r (O1 T2 : List Nat) (f g : M D) (ρ : Env) : rRg2 O1 T2 f g ρ = ((f ρ).bind fun p => (g p.2).bind fun q => match p.1, q.1 with
  | .int i, .int j => some ((i, j), q.2)
  | _, _ => none : Option ((Int × Int) × Env)) := rfl
@[simp] theorem sAsg_r (g : D → Env → Option Env) (f : M D) (ρ : Env) : sAsg g f ρ = ((f ρ).bind fun p => if p.1.noOwn = true then (g p.1 p.2).bind fun ρ' => some (.nx ρ') else none : Option Res) := rfl
@[simp] theorem sAug_r (i : Nat) (T : List Nat) (g : D → D → Option D) (f : M D) (ρ : Env) : sAug i T g f ρ = ((Env.at ρ i).bind fun o => (f ρ).bind fun p => if safe [i] T o = true then (g o p.1).bind fun d => some (.nx (p.2.set i (some d))) else none : Option Res) := rfl
@[simp] theorem sAugS_r (i : Nat) (g : D → D → Option D) (fi fe : M D) (ρ : Env) : sAugS i g fi fe ρ = ((Env.at ρ i).bind fun _ => (fi ρ).bind fun p => (Env.at p.2 i).bind fun o => if p.1.noOwn = true then (gGet o p.1).bind fun d => if d.noOwn = true then
  (fe p.2).bind fun q => (g d q.1).bind fun z => if z.noOwn = true then (Env.at q.2 i).bind fun o2 => (gSet o2 p.1 z).bind fun d' => some (.nx (q.2.set i (some d'))) else none else none else none : Option Res) := rfl
@[simp] theorem sBk_r  (ρ : Env) : sBk  ρ = (some (.bk ρ) : Option Res) := rfl
@[simp] theorem sCt_r  (ρ : Env) : sCt  ρ = (some (.ct ρ) : Option Res) := rfl
@[simp] theorem sDk_r (i : Nat) (f : MS) (ρ : Env) : sDk i f ρ = ((fzSlot i ρ).bind f : Option Res) := rfl
@[simp] theorem sDrop_r (f : M D) (ρ : Env) : sDrop f ρ = ((f ρ).bind fun p => some (.nx p.2) : Option Res) := rfl
@[simp] theorem sFor_r (fi : M (List D)) (g : D → Env → Option Env) (body : MS) (ρ : Env) : sFor fi g body ρ = ((fi ρ).bind fun p => forL g body p.1 p.2 : Option Res) := rfl
@[simp] theorem sIf_r (c : M Bool) (a b : MS) (ρ : Env) : sIf c a b ρ = ((c ρ).bind fun p => if p.1 = true then a p.2 else b p.2 : Option Res) := rfl
@[simp] theorem sNil_r  (ρ : Env) : sNil  ρ = (some (.nx ρ) : Option Res) := rfl
@[simp] theorem sPar_r (i j : Nat) (f : M (List D)) (ρ : Env) : sPar i j f ρ = ((f ρ).bind fun p => match p.1 with
  | [d, e] => some (.nx ((p.2.set i (some d)).set j (some e)))
  | _ => none : Option Res) := rfl
@[simp] theorem sRet_r (f : M D) (ρ : Env) : sRet f ρ = ((f ρ).bind fun p => some (.rt p.1 p.2) : Option Res) := rfl
@[simp] theorem sRetN_r  (ρ : Env) : sRetN  ρ = (some (.rt .non ρ) : Option Res) := rfl
@[simp] theorem sSeq_r (a b : MS) (ρ : Env) : sSeq a b ρ = ((a ρ).bind fun r => match r with
  | .nx ρ' => b ρ'
  | r => some r : Option Res) := rfl
@[simp] theorem sSet_r (i : Nat) (f : M D) (ρ : Env) : sSet i f ρ = ((f ρ).bind fun p => some (.nx (p.2.set i (some p.1))) : Option Res) := rfl
@[simp] theorem at_r (ρ : Env) (i : Nat) : Env.at ρ i = (match ρ[i]? with
  | some (some d) => some d
  | _ => none) := by
  unfold Env.at
  cases ρ[i]? with
  | none => rfl
  | some o => cases o <;> rfl
@[simp] theorem noOwnL_ints (ns : List Int) : D.noOwnL (ns.map D.int) = true := by
  induction ns with
  | nil => rfl
  | cons n r ih => exact ih
@[simp] theorem noFzL_ints (ns : List Int) : D.noFzL (ns.map D.int) = true := by
  induction ns with
  | nil => rfl
  | cons n r ih => exact ih
@[simp] theorem frzL_ints (ns : List Int) : D.frzL (ns.map D.int) = ns.map D.int := by
  induction ns with
  | nil => rfl
  | cons n r ih =>
    show D.int n :: D.frzL (r.map D.int) = _
    rw [ih]
    rfl
end Vl

namespace Vl
open PySem PySem.Spec PyProof.Rows L2
@[simp] theorem safe_r1 (O : List Nat) (d : D) : safe O [] d = true := by
  unfold safe
  have : (O.all fun i => !([] : List Nat).contains i) = true := by simp
  rw [this]; rfl
@[simp] theorem safe_r2 (T : List Nat) (d : D) : safe [] T d = true := rfl
@[simp] theorem gIxA_l (o : Bool) (l : List D) (i : Int) : gIxA (.lst o l) (.int i) = L2.atI l i := rfl
@[simp] theorem gIxA_t (l : List D) (i : Int) : gIxA (.tup l) (.int i) = L2.atI l i := rfl
@[simp] theorem gEq_i (i j : Int) : gEq (.int i) (.int j) = some (.bl (decide (i = j))) := by
  unfold gEq
  rw [if_pos (by simp [eqOk, D.eok, D.dep])]
  simp only [pyEq, D.toP, PyData.eqv]
  first | rfl | rw [Bool.beq_eq_decide_eq]
@[simp] theorem gNe_i (i j : Int) : gNe (.int i) (.int j) = some (.bl (!decide (i = j))) := by
  unfold gNe
  rw [if_pos (by simp [eqOk, D.eok, D.dep])]
  simp only [pyEq, D.toP, PyData.eqv]
  first | rfl | rw [Bool.beq_eq_decide_eq]
@[simp] theorem gLt_i (i j : Int) : gLt (.int i) (.int j) = some (.bl (decide (i < j))) := rfl
@[simp] theorem gLe_i (i j : Int) : gLe (.int i) (.int j) = some (.bl (decide (i ≤ j))) := rfl
@[simp] theorem gGt_i (i j : Int) : gGt (.int i) (.int j) = some (.bl (decide (j < i))) := rfl
@[simp] theorem gGe_i (i j : Int) : gGe (.int i) (.int j) = some (.bl (decide (j ≤ i))) := rfl
@[simp] theorem gSub_i (i j : Int) : gSub (.int i) (.int j) = some (.int (i - j)) := rfl
@[simp] theorem gAdd_i (i j : Int) : gAdd (.int i) (.int j) = some (.int (i + j)) := rfl
@[simp] theorem gAddI_i (i j : Int) : gAddI (.int i) (.int j) = some (.int (i + j)) := rfl
@[simp] theorem gNeg_i (i : Int) : gNeg (.int i) = some (.int (-i)) := rfl
@[simp] theorem gLen_l (o : Bool) (l : List D) : gLen [.lst o l] = some (.int (l.length : Int)) := rfl
@[simp] theorem gLen_t (l : List D) : gLen [.tup l] = some (.int (l.length : Int)) := rfl
@[simp] theorem gInt_i (i : Int) : gInt [.int i] = some (.int i) := rfl
@[simp] theorem truth_b (b : Bool) : truth (.bl b) = some b := rfl
theorem gMul_i {i j : Int} (h : cMul i j = true) : gMul (.int i) (.int j) = some (.int (i * j)) := by
  show (if cMul i j = true then some (D.int (i * j)) else none) = _
  rw [if_pos h]
theorem gMod_i {i j : Int} (h : j ≠ 0) : gMod (.int i) (.int j) = some (.int (i.fmod j)) := by
  show (if cMod i j = true then some (D.int (i.fmod j)) else none) = _
  rw [if_pos (by simpa [cMod] using h)]
theorem gDiv_L {i j : Int} (h : j ≠ 0) (h2 : j.natAbs < 2 ^ 8000) : gDiv (.int i) (.int j) = some (.int (i.fdiv j)) := by
  show (if cDiv i j = true then some (D.int (i.fdiv j)) else none) = _
  rw [if_pos (by unfold cDiv; rw [decide_eq_true h, decide_eq_true h2]; rfl)]
theorem gDiv_i {i j : Int} (h : j ≠ 0) (h2 : j.natAbs < 1073741824) : gDiv (.int i) (.int j) = some (.int (i.fdiv j)) := by
  show (if cDiv i j = true then some (D.int (i.fdiv j)) else none) = _
  rw [if_pos (by unfold cDiv; rw [decide_eq_true h, decide_eq_true (Nat.lt_of_lt_of_le h2 (Nat.pow_le_pow_right (n := 2) (by decide) (show 30 ≤ 8000 by decide)))]; rfl)]
theorem gPow_i {i j : Int} (h : cPow i j = true) : gPow (.int i) (.int j) = some (.int (i ^ j.toNat)) := by
  show (if cPow i j = true then some (D.int (i ^ j.toNat)) else none) = _
  rw [if_pos h]
end Vl
namespace G02
open PySem PySem.Spec PyProof.Rows L2 Vl
def St (cells : List Int) (i cur left : Int) (big : Bool) : D := .lst true [.lst false (cells.map .int), .int i, .int cur, .int left, .bl big, .int 500]
theorem draw_end (cells : List Int) (i : Int) (limit : Int) (hl : 0 < limit) (h : (cells.length : Int) ≤ i) (cur : Int) (big : Bool) : F__law_draw [St cells i cur 0 big, .int limit] = some (.int 0, [St cells i cur 0 big]) := by
  unfold F__law_draw runF St
  simp [L2.atI, L2.ixN, h, outs]
theorem fmod_lo {a b : Int} (h : 0 < b) : 0 ≤ a.fmod b := by
  rw [Int.fmod_eq_emod_of_nonneg _ (Int.le_of_lt h)]
  exact Int.emod_nonneg _ (by omega)
theorem fmod_hi {a b : Int} (h : 0 < b) : a.fmod b < b := by
  rw [Int.fmod_eq_emod_of_nonneg _ (Int.le_of_lt h)]
  exact Int.emod_lt_of_pos _ h
theorem cMul_r {i j : Int} (h : j.natAbs < 2 ^ 63) : cMul i j = true := by simp [cMul, h]
/-- what the small draw reckons -/
theorem mixE (cur l1 limit : Int) (hl : 0 < limit) : ∃ m r, gMul (.int cur) (.int 48271) = some (.int (cur * 48271)) ∧ gMul (.int l1) (.int 69621) = some (.int (l1 * 69621)) ∧ gMod (.int (cur * 48271 + l1 * 69621 + 7)) (.int 2147483647) = some (.int m) ∧ gMul (.int m) (.int m) = some (.int (m * m)) ∧
    gMul (.int cur) (.int 31) = some (.int (cur * 31)) ∧ (∃ k, gMod (.int (m * m + cur * 31 + l1)) (.int 1000003) = some (.int k) ∧ gMod (.int k) (.int limit) = some (.int r)) ∧ 0 ≤ r ∧ r < limit := by
  have h0 : 0 ≤ (cur * 48271 + l1 * 69621 + 7).fmod 2147483647 := fmod_lo (by decide)
  have h1 : (cur * 48271 + l1 * 69621 + 7).fmod 2147483647 < 2147483647 := fmod_hi (by decide)
  exact ⟨_, _, gMul_i (cMul_r (by decide)), gMul_i (cMul_r (by decide)), gMod_i (by decide), gMul_i (cMul_r (by omega)), gMul_i (cMul_r (by decide)), ⟨_, gMod_i (by decide), gMod_i (by omega)⟩, fmod_lo hl, fmod_hi hl⟩
theorem atI_ints {cells : List Int} {i : Int} (h0 : 0 ≤ i) (h : i < (cells.length : Int)) : ∃ c, L2.atI (cells.map D.int) i = some (.int c) := by
  refine ⟨cells[i.toNat]'(by omega), ?_⟩
  unfold L2.atI L2.ixN
  rw [List.length_map, if_pos h0, if_pos h]
  show (cells.map D.int)[i.toNat]? = _
  rw [List.getElem?_map, List.getElem?_eq_getElem (by omega)]
  rfl
@[simp] theorem six0 (a b c d e f : D) : L2.atI [a, b, c, d, e, f] 0 = some a := rfl
@[simp] theorem six1 (a b c d e f : D) : L2.atI [a, b, c, d, e, f] 1 = some b := rfl
@[simp] theorem six2 (a b c d e f : D) : L2.atI [a, b, c, d, e, f] 2 = some c := rfl
@[simp] theorem six3 (a b c d e f : D) : L2.atI [a, b, c, d, e, f] 3 = some d := rfl
@[simp] theorem six4 (a b c d e f : D) : L2.atI [a, b, c, d, e, f] 4 = some e := rfl
theorem pow18 : gPow (.int 10) (.int 18) = some (.int 1000000000000000000) := gPow_i (by decide)
theorem draw_ok (cells : List Int) (i cur left limit : Int) (big : Bool) (hl : 0 < limit) (hl2 : limit < 1000000) (hi : 0 ≤ i) : ∃ r i' cur' left' big', F__law_draw [St cells i cur left big, .int limit] = some (.int r, [St cells i' cur' left' big']) ∧ 0 ≤ i' ∧ 0 ≤ r ∧ r < limit := by
  by_cases h0 : left = 0
  · subst h0
    by_cases hlen : (cells.length : Int) ≤ i
    · exact ⟨0, i, cur, 0, big, draw_end cells i limit hl hlen cur big, hi, Int.le_refl _, hl⟩
    · obtain ⟨c, hc⟩ := atI_ints hi (by omega : i < (cells.length : Int))
      obtain ⟨c', hc'⟩ : ∃ c', c' = if c < 0 then -1 - c else c := ⟨_, rfl⟩
      by_cases hb : 1000000000000000000 ≤ c'
      · have e1 : gMod (.int c') (.int limit) = some (.int (c'.fmod limit)) := gMod_i (by omega)
        have e2 : gDiv (.int c') (.int limit) = some (.int (c'.fdiv limit)) := gDiv_i (by omega) (by omega)
        by_cases hz : c'.fdiv limit = 0
        · refine ⟨c'.fmod limit, i + 1, 0, 0, true, ?_, by omega, fmod_lo hl, fmod_hi hl⟩
          unfold F__law_draw runF St
          by_cases hn : c < 0
          · rw [if_pos hn] at hc'
            subst hc'
            simp [L2.ixN, hlen, outs, gSt, gSet, D.noOwn, D.noOwnL, e1, e2, hc, hn, hb, hz, pow18]
          · rw [if_neg hn] at hc'
            subst hc'
            simp [L2.ixN, hlen, outs, gSt, gSet, D.noOwn, D.noOwnL, e1, e2, hc, hn, hb, hz, pow18]
        · refine ⟨c'.fmod limit, i + 1, c'.fdiv limit, 59, true, ?_, by omega, fmod_lo hl, fmod_hi hl⟩
          unfold F__law_draw runF St
          by_cases hn : c < 0
          · rw [if_pos hn] at hc'
            subst hc'
            simp [L2.ixN, hlen, outs, gSt, gSet, D.noOwn, D.noOwnL, e1, e2, hc, hn, hb, hz, pow18]
          · rw [if_neg hn] at hc'
            subst hc'
            simp [L2.ixN, hlen, outs, gSt, gSet, D.noOwn, D.noOwnL, e1, e2, hc, hn, hb, hz, pow18]
      · obtain ⟨m, r, e1, e2, e3, e4, e5, ⟨k, e6, e7⟩, r1, r2⟩ := mixE c' 5 limit hl
        have e3 : gMod (.int (c' * 48271 + 348105 + 7)) (.int 2147483647) = some (.int m) := e3
        refine ⟨r, i + 1, c', 5, false, ?_, by omega, r1, r2⟩
        unfold F__law_draw runF St
        by_cases hn : c < 0
        · rw [if_pos hn] at hc'
          subst hc'
          simp [L2.ixN, hlen, outs, gSt, gSet, D.noOwn, D.noOwnL, e1, e2, e3, e4, e5, e6, e7, hc, hn, hb, pow18]
        · rw [if_neg hn] at hc'
          subst hc'
          simp [L2.ixN, hlen, outs, gSt, gSet, D.noOwn, D.noOwnL, e1, e2, e3, e4, e5, e6, e7, hc, hn, hb, pow18]
  · cases big with
    | false =>
      obtain ⟨m, r, e1, e2, e3, e4, e5, ⟨k, e6, e7⟩, r1, r2⟩ := mixE cur (left - 1) limit hl
      refine ⟨r, i, cur, left - 1, false, ?_, hi, r1, r2⟩
      unfold F__law_draw runF St
      simp [L2.ixN, h0, outs, gSt, gSet, D.noOwn, D.noOwnL, e1, e2, e3, e4, e5, e6, e7]
    | true =>
      have e1 : gMod (.int cur) (.int limit) = some (.int (cur.fmod limit)) := gMod_i (by omega)
      have e2 : gDiv (.int cur) (.int limit) = some (.int (cur.fdiv limit)) := gDiv_i (by omega) (by omega)
      by_cases hz : cur.fdiv limit = 0
      · refine ⟨cur.fmod limit, i, 0, 0, true, ?_, hi, fmod_lo hl, fmod_hi hl⟩
        unfold F__law_draw runF St
        simp [L2.ixN, h0, outs, gSt, gSet, D.noOwn, D.noOwnL, e1, e2, hz]
      · refine ⟨cur.fmod limit, i, cur.fdiv limit, left - 1, true, ?_, hi, fmod_lo hl, fmod_hi hl⟩
        unfold F__law_draw runF St
        simp [L2.ixN, h0, outs, gSt, gSet, D.noOwn, D.noOwnL, e1, e2, hz]
end G02

namespace G02
open PySem PySem.Spec PyProof.Rows L2 Vl
/-- a state of the draws -/
def IsSt (d : D) : Prop := ∃ cells i cur left big, d = St cells i cur left big ∧ 0 ≤ i
theorem draw (s : D) (limit : Int) (hs : IsSt s) (hl : 0 < limit) (hl2 : limit < 1000000) : ∃ r s', F__law_draw [s, .int limit] = some (.int r, [s']) ∧ IsSt s' ∧ 0 ≤ r ∧ r < limit := by
  obtain ⟨cells, i, cur, left, big, rfl, hi⟩ := hs
  obtain ⟨r, i', cur', left', big', e, h1, h2, h3⟩ := draw_ok cells i cur left limit big hl hl2 hi
  exact ⟨r, _, e, ⟨cells, i', cur', left', big', rfl, h1⟩, h2, h3⟩
theorem state_ok (ns : List Int) (h : ns.length ≤ 63) : ∃ s, F__law_state [.scr (ns.map .int)] = some (s, []) ∧ IsSt s := by
  refine ⟨St ns 0 0 0 false, ?_, ⟨ns, 0, 0, 0, false, rfl, Int.le_refl _⟩⟩
  unfold F__law_state runF St
  simp [outs, gListA, gList, D.frz, szOk]
end G02

namespace G02
open PySem PySem.Spec PyProof.Rows L2 Vl
/-- a tuple, or a list that is read -/
def sq (b : Bool) (l : List D) : D := if b = true then .lst false l else .tup l
@[simp] theorem sq_len (b : Bool) (l : List D) : gLen [sq b l] = some (.int (l.length : Int)) := by cases b <;> rfl
@[simp] theorem sq_ix (b : Bool) (l : List D) (i : Int) : gIxA (sq b l) (.int i) = L2.atI l i := by cases b <;> rfl
@[simp] theorem sq_no (b : Bool) (ns : List Int) : (sq b (ns.map .int)).noOwn = true := by cases b <;> simp [sq, D.noOwn]
theorem atI_i {ns : List Int} {k : Nat} {n : Int} (h : ns[k]? = some n) : L2.atI (ns.map D.int) (k : Int) = some (.int n) := by
  have hk : k < ns.length := (List.getElem?_eq_some_iff.mp h).1
  unfold L2.atI L2.ixN
  rw [List.length_map, if_pos (by omega), if_pos (by omega)]
  show (ns.map D.int)[((k : Int)).toNat]? = _
  rw [Int.toNat_natCast, List.getElem?_map, h]
  rfl
def lead : List Int → Nat
  | [] => 0
  | n :: r => if n = 0 then lead r + 1 else 0
theorem lead_le : ∀ ns : List Int, lead ns ≤ ns.length
  | [] => Nat.le_refl _
  | n :: r => by
    unfold lead
    have := lead_le r
    split <;> simp <;> omega
abbrev nT1 : M Bool := fAnd (fB (fOp [2] [] gLt (fVar 2) (fCl gLen (fCons [1] [] (fVar 1) fNil)))) (fB (fOp [1] [] gEq (fOp [1] [] gIxA (fVar 1) (fVar 2)) (fC (.int 0))))
abbrev nB1 : MS := sAug 2 [] gAddI (fC (.int 1))
theorem norm_w1 (l : Int) (b : Bool) (ns : List Int) : ∀ (n k : Nat), ns.length - k < n → k ≤ ns.length →
    whileN n nT1 nB1 [some (.int l), some (sq b (ns.map .int)), some (.int (k : Int)), none] = some (.nx [some (.int l), some (sq b (ns.map .int)), some (.int ((k + lead (ns.drop k) : Nat) : Int)), none])
  | 0, k, h, _ => by omega
  | n + 1, k, h, hk => by
    unfold whileN
    by_cases hlt : k < ns.length
    · obtain ⟨m, hm⟩ : ∃ m, ns[k]? = some m := ⟨_, List.getElem?_eq_getElem hlt⟩
      have e := atI_i hm
      have hd : ns.drop k = m :: ns.drop (k + 1) := by
        rw [List.drop_eq_getElem_cons hlt]
        rw [List.getElem?_eq_getElem hlt] at hm
        cases hm
        rfl
      by_cases h0 : m = 0
      · subst h0
        have ih := norm_w1 l b ns n (k + 1) (by omega) (by omega)
        have e2 : k + lead (ns.drop k) = (k + 1) + lead (ns.drop (k + 1)) := by rw [hd]; simp [lead]; omega
        have hlt' : (k : Int) < (ns.length : Int) := by omega
        rw [e2]
        simp [e, hlt']
        simpa using ih
      · have e2 : lead (ns.drop k) = 0 := by rw [hd]; simp [lead, h0]
        have hlt' : (k : Int) < (ns.length : Int) := by omega
        simp [e, hlt', h0, e2]
    · have e0 : ns.drop k = [] := List.drop_eq_nil_of_le (by omega)
      have hlt' : ¬ (k : Int) < (ns.length : Int) := by omega
      simp [hlt', e0, lead]
def cutz (ns : List Int) (f : Nat) : Nat → Nat
  | 0 => 0
  | k + 1 => if f < k + 1 ∧ ns[k]? = some 0 then cutz ns f k else k + 1
theorem cutz_le (ns : List Int) (f : Nat) : ∀ k, cutz ns f k ≤ k
  | 0 => Nat.le_refl _
  | k + 1 => by
    unfold cutz
    have := cutz_le ns f k
    split <;> omega
theorem cutz_ge (ns : List Int) (f : Nat) : ∀ k, f ≤ k → f ≤ cutz ns f k
  | 0, h => by simpa [cutz] using h
  | k + 1, h => by
    unfold cutz
    split
    · rename_i q
      exact cutz_ge ns f k (by omega)
    · exact h
abbrev nT2 : M Bool := fAnd (fB (fOp [3] [] gGt (fVar 3) (fVar 2))) (fB (fOp [1] [] gEq (fOp [1] [] gIxA (fVar 1) (fOp [3] [] gSub (fVar 3) (fC (.int 1)))) (fC (.int 0))))
abbrev nB2 : MS := sAug 3 [] gSub (fC (.int 1))
theorem norm_w2 (l : Int) (b : Bool) (ns : List Int) (f : Nat) : ∀ (n k : Nat), k < n → k ≤ ns.length →
    whileN n nT2 nB2 [some (.int l), some (sq b (ns.map .int)), some (.int (f : Int)), some (.int (k : Int))] = some (.nx [some (.int l), some (sq b (ns.map .int)), some (.int (f : Int)), some (.int ((cutz ns f k : Nat) : Int))])
  | 0, k, h, _ => by omega
  | n + 1, k, h, hk => by
    unfold whileN
    by_cases hlt : f < k
    · obtain ⟨j, rfl⟩ : ∃ j, k = j + 1 := ⟨k - 1, by omega⟩
      obtain ⟨m, hm⟩ : ∃ m, ns[j]? = some m := ⟨_, List.getElem?_eq_getElem (by omega)⟩
      have e := atI_i hm
      have hlt' : (f : Int) < (j : Int) + 1 := by omega
      have e1 : (j : Int) + 1 - 1 = (j : Int) := by omega
      by_cases h0 : m = 0
      · subst h0
        have ih := norm_w2 l b ns f n j (by omega) (by omega)
        have e2 : cutz ns f (j + 1) = cutz ns f j := by rw [cutz, if_pos ⟨by omega, hm⟩]
        rw [e2]
        simp [e, e1, hlt']
        simpa using ih
      · have e2 : cutz ns f (j + 1) = j + 1 := by
          rw [cutz, if_neg]
          rintro ⟨_, q⟩
          rw [hm] at q
          exact h0 (Option.some.inj q)
        rw [e2]
        simp [e, e1, hlt', h0]
    · have e2 : cutz ns f k = k := by
        cases k with
        | zero => rfl
        | succ j => rw [cutz, if_neg (fun q => hlt q.1)]
      have hlt' : ¬ (f : Int) < (k : Int) := by omega
      rw [e2]
      simp [hlt']
/-- a polynomial -/
def P (l : Int) (ns : List Int) : D := .tup [.int l, .tup (ns.map .int)]
/-- the normal form -/
def normD (l : Int) (ns : List Int) : D := if lead ns = cutz ns (lead ns) ns.length then P 0 [] else P (l + (lead ns : Nat)) ((ns.drop (lead ns)).take (cutz ns (lead ns) ns.length - lead ns))
theorem sl_ints (b : Bool) (ns : List Int) (f e : Nat) (hf : f ≤ ns.length) (he : e ≤ ns.length) : ∃ d, gSl (sq b (ns.map .int)) (some (f : Int)) (some (e : Int)) = some d ∧ gTuple [d] = some (.tup (((ns.drop f).take (e - f)).map .int)) ∧ (b = true → d.noOwn = false) ∧ True := by
  have h1 : HT.sIx (ns.map D.int).length 0 (some (f : Int)) = f := by rw [HT.sIx_nat, List.length_map]; omega
  have h2 : HT.sIx (ns.map D.int).length (ns.map D.int).length (some (e : Int)) = e := by rw [HT.sIx_nat, List.length_map]; omega
  have h3 : cutL (ns.map D.int) (some (f : Int)) (some (e : Int)) = ((ns.drop f).take (e - f)).map D.int := by
    unfold cutL
    rw [h1, h2, List.map_take, List.map_drop]
  cases b with
  | true => exact ⟨.lst true (cutL (ns.map D.int) (some (f : Int)) (some (e : Int))), by simp [sq, gSl], by rw [h3]; exact if_pos (noOwnL_ints _), fun _ => rfl, trivial⟩
  | false => exact ⟨.tup (cutL (ns.map D.int) (some (f : Int)) (some (e : Int))), by simp [sq, gSl], by rw [h3]; exact if_pos (noOwnL_ints _), fun h => (by cases h), trivial⟩
theorem normal_ok (l : Int) (b : Bool) (ns : List Int) (hz : ns.length ≤ 100000) : F_normal [.int l, sq b (ns.map .int)] = some (normD l ns, []) := by
  have w1 := sWhile_of (by unfold fuel; omega) (norm_w1 l b ns (ns.length + 1) 0 (by omega) (Nat.zero_le _))
  have w2 := sWhile_of (by unfold fuel; omega) (norm_w2 l b ns (lead ns) (ns.length + 1) ns.length (by omega) (Nat.le_refl _))
  have c1 := lead_le ns
  have c2 := cutz_le ns (lead ns) ns.length
  obtain ⟨d, s1, s2, _⟩ := sl_ints b ns (lead ns) (cutz ns (lead ns) ns.length) c1 c2
  unfold F_normal runF normD
  simp only [List.drop_zero, Nat.zero_add] at w1
  have w1 : sWhile nT1 nB1 [some (.int l), some (sq b (ns.map .int)), some (.int 0), none] = some (.nx [some (.int l), some (sq b (ns.map .int)), some (.int ((lead ns : Nat) : Int)), none]) := w1
  by_cases he : lead ns = cutz ns (lead ns) ns.length
  · have he' : ((lead ns : Nat) : Int) = ((cutz ns (lead ns) ns.length : Nat) : Int) := by rw [← he]
    rw [if_pos he]
    simp [w1, w2, eq_true he', outs, c_ZERO, P]
  · have he' : ¬ ((lead ns : Nat) : Int) = ((cutz ns (lead ns) ns.length : Nat) : Int) := by omega
    rw [if_neg he]
    simp [w1, w2, he', outs, P, s1, s2, szOk]
end G02

namespace G02
open PySem PySem.Spec PyProof.Rows L2 Vl
/-! ### the numbers at exponents -/
def coef (l : Int) (ns : List Int) (e : Int) : Int := if 0 ≤ e - l then (ns[(e - l).toNat]?).getD 0 else 0
/-- no zero at an end -/
def Nf (l : Int) (ns : List Int) : Prop := (ns = [] ∧ l = 0) ∨ ((∃ a r, ns = a :: r ∧ a ≠ 0) ∧ ∃ r z, ns = r ++ [z] ∧ z ≠ 0)
theorem coef_out {l : Int} {ns : List Int} {e : Int} (h : e < l ∨ l + (ns.length : Nat) ≤ e) : coef l ns e = 0 := by
  unfold coef
  split
  · rw [List.getElem?_eq_none (by omega)]; rfl
  · rfl
theorem coef_at {l : Int} {ns : List Int} {k : Nat} (h : k < ns.length) : coef l ns (l + (k : Nat)) = ns[k] := by
  unfold coef
  have e : l + (k : Int) - l = (k : Int) := by omega
  rw [e, if_pos (by omega), Int.toNat_natCast, List.getElem?_eq_getElem h]
  rfl
theorem Nf.first {l : Int} {ns : List Int} (h : Nf l ns) (hn : ns ≠ []) : coef l ns l ≠ 0 := by
  rcases h with ⟨e, _⟩ | ⟨⟨a, r, e, ha⟩, _⟩
  · exact absurd e hn
  · subst e
    have := coef_at (l := l) (ns := a :: r) (k := 0) (by simp)
    simp at this
    rw [this]; exact ha
theorem Nf.last {l : Int} {ns : List Int} (h : Nf l ns) (hn : ns ≠ []) : coef l ns (l + ((ns.length - 1 : Nat) : Int)) ≠ 0 := by
  rcases h with ⟨e, _⟩ | ⟨_, ⟨r, z, e, hz⟩⟩
  · exact absurd e hn
  · subst e
    rw [coef_at (by simp)]
    simp
    exact hz
theorem Nf.uniq {l l' : Int} {ns ns' : List Int} (h : Nf l ns) (h' : Nf l' ns') (he : ∀ e, coef l ns e = coef l' ns' e) : l = l' ∧ ns = ns' := by
  have zero : ∀ {l l' : Int} {ns ns' : List Int}, Nf l ns → ns' = [] → (∀ e, coef l ns e = coef l' ns' e) → ns = [] := fun {l l' ns ns'} h e he => by
    refine Classical.byContradiction fun hn => h.first hn ?_
    rw [he, e]
    exact coef_out (by simp; omega)
  by_cases hn' : ns' = []
  · have hn := zero h hn' he
    rcases h with ⟨_, e1⟩ | ⟨⟨a, r, e, _⟩, _⟩
    · rcases h' with ⟨_, e2⟩ | ⟨⟨a, r, e, _⟩, _⟩
      · exact ⟨by rw [e1, e2], by rw [hn, hn']⟩
      · rw [hn'] at e; cases e
    · rw [hn] at e; cases e
  · have hn : ns ≠ [] := fun e => hn' (zero h' e fun x => (he x).symm)
    have p1 : 0 < ns.length := List.length_pos_iff.mpr hn
    have p2 : 0 < ns'.length := List.length_pos_iff.mpr hn'
    have a1 : ¬ (l < l' ∨ l' + (ns'.length : Nat) ≤ l) := fun q => h.first hn (by rw [he]; exact coef_out q)
    have a2 : ¬ (l' < l ∨ l + (ns.length : Nat) ≤ l') := fun q => h'.first hn' (by rw [← he]; exact coef_out q)
    have b1 : ¬ (l + ((ns.length - 1 : Nat) : Int) < l' ∨ l' + (ns'.length : Nat) ≤ l + ((ns.length - 1 : Nat) : Int)) := fun q => h.last hn (by rw [he]; exact coef_out q)
    have b2 : ¬ (l' + ((ns'.length - 1 : Nat) : Int) < l ∨ l + (ns.length : Nat) ≤ l' + ((ns'.length - 1 : Nat) : Int)) := fun q => h'.last hn' (by rw [← he]; exact coef_out q)
    have el : l = l' := by omega
    subst el
    have en : ns.length = ns'.length := by omega
    refine ⟨rfl, List.ext_getElem en fun k k1 k2 => ?_⟩
    have := he (l + (k : Nat))
    rwa [coef_at k1, coef_at k2] at this
theorem lead_zero : ∀ (ns : List Int) (k : Nat), k < lead ns → ns[k]? = some 0
  | [], k, h => by simp [lead] at h
  | n :: r, k, h => by
    unfold lead at h
    split at h
    · rename_i h0
      subst h0
      cases k with
      | zero => rfl
      | succ k => simpa using lead_zero r k (by omega)
    · omega
theorem lead_at : ∀ (ns : List Int), lead ns < ns.length → ∃ a, ns[lead ns]? = some a ∧ a ≠ 0
  | [], h => by simp at h
  | n :: r, h => by
    unfold lead at h ⊢
    split
    · rename_i h0
      rw [if_pos h0] at h
      obtain ⟨a, h1, h2⟩ := lead_at r (by simpa using h)
      exact ⟨a, by simpa using h1, h2⟩
    · rename_i h0
      exact ⟨n, rfl, h0⟩
theorem cutz_zero (ns : List Int) (f : Nat) : ∀ (n k : Nat), cutz ns f n ≤ k → k < n → ns[k]? = some 0
  | 0, k, _, h => by omega
  | n + 1, k, h1, h2 => by
    unfold cutz at h1
    split at h1
    · rename_i q
      by_cases e : k = n
      · subst e; exact q.2
      · exact cutz_zero ns f n k h1 (by omega)
    · omega
theorem cutz_at (ns : List Int) (f : Nat) : ∀ (n : Nat), f < cutz ns f n → ¬ ns[cutz ns f n - 1]? = some 0
  | 0, h => by simp [cutz] at h
  | n + 1, h => by
    unfold cutz at h ⊢
    split
    · rename_i q
      rw [if_pos q] at h
      exact cutz_at ns f n h
    · rename_i q
      rw [if_neg q] at h
      exact fun z => q ⟨by omega, by simpa using z⟩
theorem norm_poly (l : Int) (ns : List Int) : ∃ l' ns', normD l ns = P l' ns' ∧ Nf l' ns' ∧ (∀ e, coef l' ns' e = coef l ns e) ∧ ns'.length ≤ ns.length ∧ (∀ n ∈ ns', n ∈ ns) ∧ ((ns' = [] ∧ l' = 0) ∨ (l ≤ l' ∧ l' + (ns'.length : Nat) ≤ l + (ns.length : Nat))) := by
  have c1 := lead_le ns
  have c2 := cutz_le ns (lead ns) ns.length
  have c3 := cutz_ge ns (lead ns) ns.length c1
  unfold normD
  by_cases he : lead ns = cutz ns (lead ns) ns.length
  · rw [if_pos he]
    refine ⟨0, [], rfl, .inl ⟨rfl, rfl⟩, fun e => ?_, Nat.zero_le _, fun _ h => (by cases h), .inl ⟨rfl, rfl⟩⟩
    rw [coef_out (by simp; omega)]
    by_cases ho : e < l ∨ l + (ns.length : Nat) ≤ e
    · rw [coef_out ho]
    · obtain ⟨k, rfl⟩ : ∃ k : Nat, e = l + k := ⟨(e - l).toNat, by omega⟩
      rw [coef_at (by omega)]
      have z : ns[k]? = some 0 := by
        by_cases q : k < lead ns
        · exact lead_zero ns k q
        · exact cutz_zero ns (lead ns) ns.length k (by omega) (by omega)
      rw [List.getElem?_eq_getElem (by omega)] at z
      exact (Option.some.inj z).symm
  · rw [if_neg he]
    have hlt : lead ns < cutz ns (lead ns) ns.length := by omega
    have hlen : ((ns.drop (lead ns)).take (cutz ns (lead ns) ns.length - lead ns)).length = cutz ns (lead ns) ns.length - lead ns := by
      rw [List.length_take, List.length_drop]; omega
    have hget : ∀ k, k < cutz ns (lead ns) ns.length - lead ns → ((ns.drop (lead ns)).take (cutz ns (lead ns) ns.length - lead ns))[k]? = ns[lead ns + k]? := fun k hk => by
      rw [List.getElem?_take, if_pos hk, List.getElem?_drop]
    generalize hm : (ns.drop (lead ns)).take (cutz ns (lead ns) ns.length - lead ns) = ms at hlen hget
    refine ⟨l + (lead ns : Nat), ms, rfl, .inr ⟨?_, ?_⟩, fun e => ?_, by omega, fun n h => ?_, .inr ⟨by omega, by omega⟩⟩
    · obtain ⟨a, h1, h2⟩ := lead_at ns (by omega)
      cases ms with
      | nil => simp at hlen; omega
      | cons b r =>
        have q := hget 0 (by omega)
        rw [Nat.add_zero, h1] at q
        cases q
        exact ⟨_, _, rfl, h2⟩
    · have hne : ms ≠ [] := fun e => by rw [e] at hlen; simp at hlen; omega
      refine ⟨ms.dropLast, ms.getLast hne, (List.dropLast_concat_getLast hne).symm, fun z => ?_⟩
      have q := hget (ms.length - 1) (by omega)
      rw [← List.getLast?_eq_getElem?, List.getLast?_eq_getLast hne, z] at q
      have := cutz_at ns (lead ns) ns.length hlt
      rw [show lead ns + (ms.length - 1) = cutz ns (lead ns) ns.length - 1 by omega] at q
      exact this q.symm
    · by_cases ho : e < l ∨ l + (ns.length : Nat) ≤ e
      · rw [coef_out ho, coef_out (by omega)]
      · obtain ⟨k, rfl⟩ : ∃ k : Nat, e = l + k := ⟨(e - l).toNat, by omega⟩
        have hk : k < ns.length := by omega
        by_cases q : k < lead ns
        · rw [coef_out (.inl (by omega)), coef_at hk]
          have z := lead_zero ns k q
          rw [List.getElem?_eq_getElem hk] at z
          exact (Option.some.inj z).symm
        · by_cases p : cutz ns (lead ns) ns.length ≤ k
          · rw [coef_out (.inr (by omega)), coef_at hk]
            have z := cutz_zero ns (lead ns) ns.length k p hk
            rw [List.getElem?_eq_getElem hk] at z
            exact (Option.some.inj z).symm
          · have e1 : l + (k : Int) = (l + (lead ns : Nat)) + ((k - lead ns : Nat) : Int) := by omega
            have hk2 : k - lead ns < ms.length := by omega
            rw [coef_at hk, e1, coef_at hk2]
            have z := hget (k - lead ns) (by omega)
            rw [show lead ns + (k - lead ns) = k by omega, List.getElem?_eq_getElem hk, List.getElem?_eq_getElem hk2] at z
            exact Option.some.inj z
    · rw [← hm] at h
      exact List.mem_of_mem_drop (List.mem_of_mem_take h)
end G02

namespace Vl
open PySem PySem.Spec PyProof.Rows L2
/-! ### comprehensions whose parts are plain -/
theorem compL_pure {i : Nat} {ft : M Bool} {fe : M D} {ρ0 : Env} {p : D → Bool} {h : D → D} : ∀ (items : List D) (ρ : Env) (acc : List D), ρ.set i none = ρ0.set i none →
    (∀ d ∈ items, ft (ρ0.set i (some d)) = some (p d, ρ0.set i (some d))) → (∀ d ∈ items, p d = true → fe (ρ0.set i (some d)) = some (h d, ρ0.set i (some d))) → acc.length + items.length ≤ 100000 →
    ∃ ρ', compL [i] (gNm i) ft fe items ρ acc = some (acc ++ (items.filter p).map h, ρ') ∧ ρ'.set i none = ρ0.set i none
  | [], ρ, acc, hρ, _, _, _ => ⟨ρ, by simp [compL], hρ⟩
  | d :: ds, ρ, acc, hρ, ht, he, hl => by
    have e0 : (wipeE ρ [i]).set i (some d) = ρ0.set i (some d) := by
      show (ρ.set i none).set i (some d) = _
      rw [hρ, List.set_set]
    have ht1 := ht d List.mem_cons_self
    have e1 : (ρ0.set i (some d)).set i none = ρ0.set i none := by rw [List.set_set]
    rw [List.length_cons] at hl
    cases hp : p d with
    | false =>
      obtain ⟨ρ', h1, h2⟩ := compL_pure ds (ρ0.set i (some d)) acc e1 (fun x hx => ht x (List.mem_cons_of_mem _ hx)) (fun x hx => he x (List.mem_cons_of_mem _ hx)) (by omega)
      refine ⟨ρ', ?_, h2⟩
      rw [List.filter_cons, hp, if_neg Bool.false_ne_true]
      show (some ((wipeE ρ [i]).set i (some d))).bind _ = _
      rw [e0, Option.bind_some, ht1, Option.bind_some, hp, if_neg Bool.false_ne_true]
      exact h1
    | true =>
      have he1 := he d List.mem_cons_self hp
      obtain ⟨ρ', h1, h2⟩ := compL_pure ds (ρ0.set i (some d)) (acc ++ [h d]) e1 (fun x hx => ht x (List.mem_cons_of_mem _ hx)) (fun x hx => he x (List.mem_cons_of_mem _ hx)) (by simp; omega)
      refine ⟨ρ', ?_, h2⟩
      rw [List.filter_cons, hp, if_pos rfl, List.map_cons]
      show (some ((wipeE ρ [i]).set i (some d))).bind _ = _
      rw [e0, Option.bind_some, ht1, Option.bind_some, hp, if_pos rfl, he1, Option.bind_some, if_pos (show szOk acc.length = true from decide_eq_true (by omega)), h1, List.append_assoc]
      rfl
theorem set_back (ρ : Env) (i : Nat) : ρ.set i ((ρ[i]?).getD none) = ρ := by
  refine List.ext_getElem? fun j => ?_
  by_cases e : j = i
  · subst e
    by_cases h : j < ρ.length
    · rw [List.getElem?_set_self h, List.getElem?_eq_getElem h]
      rfl
    · rw [List.getElem?_eq_none (by rw [List.length_set]; omega), List.getElem?_eq_none (by omega)]
  · rw [List.getElem?_set_ne (Ne.symm e)]
theorem fComp_pure {i : Nat} {fi : M (List D)} {ft : M Bool} {fe : M D} {ρ0 ρ1 : Env} {items : List D} (p : D → Bool) (h : D → D) (hi : fi ρ0 = some (items, ρ1)) (ho : ownOk ρ1 [i] = true) (ht : ∀ d ∈ items, ft (ρ1.set i (some d)) = some (p d, ρ1.set i (some d)))
    (he : ∀ d ∈ items, p d = true → fe (ρ1.set i (some d)) = some (h d, ρ1.set i (some d))) (hl : items.length ≤ 100000) : fComp [i] fi (gNm i) ft fe ρ0 = some (.lst true ((items.filter p).map h), ρ1) := by
  obtain ⟨ρ', h1, h2⟩ := compL_pure (p := p) (h := h) items ρ1 [] rfl ht he (by simpa using hl)
  unfold fComp
  rw [hi, Option.bind_some, if_pos ho, h1, Option.bind_some, List.nil_append]
  show some (D.lst true _, ρ'.set i ((ρ1[i]?).getD none)) = _
  have e : ρ'.set i ((ρ1[i]?).getD none) = ρ1 := by
    have : (ρ'.set i none).set i ((ρ1[i]?).getD none) = (ρ1.set i none).set i ((ρ1[i]?).getD none) := by rw [h2]
    rw [List.set_set, List.set_set, set_back] at this
    exact this
  rw [e]
/-- .. without an if -/
theorem fComp_all {i : Nat} {fi : M (List D)} {fe : M D} {ρ0 ρ1 : Env} {items : List D} (h : D → D) (hi : fi ρ0 = some (items, ρ1)) (ho : ownOk ρ1 [i] = true)
    (he : ∀ d ∈ items, fe (ρ1.set i (some d)) = some (h d, ρ1.set i (some d))) (hl : items.length ≤ 100000) : fComp [i] fi (gNm i) fYes fe ρ0 = some (.lst true (items.map h), ρ1) := by
  have := fComp_pure (ft := fYes) (fun _ => true) h hi ho (fun _ _ => rfl) (fun d hd _ => he d hd) hl
  rwa [List.filter_eq_self.mpr fun _ _ => rfl] at this
end Vl
namespace G02
open PySem PySem.Spec PyProof.Rows L2 Vl
@[simp] theorem two0 (a b : D) : L2.atI [a, b] 0 = some a := rfl
@[simp] theorem two1 (a b : D) : L2.atI [a, b] 1 = some b := rfl
theorem coefficient_ok (l : Int) (ns : List Int) (e : Int) : F_coefficient [P l ns, .int e] = some (.int (coef l ns e), []) := by
  unfold F_coefficient runF P coef
  by_cases h0 : 0 ≤ e - l
  · have h0' : l ≤ e := by omega
    by_cases h1 : e - l < (ns.length : Int)
    · have q : L2.atI (ns.map D.int) (e - l) = some (.int ((ns[(e - l).toNat]?).getD 0)) := by
        have hm : ns[(e - l).toNat]? = some (ns[(e - l).toNat]'(by omega)) := List.getElem?_eq_getElem (by omega)
        have := atI_i hm
        rw [show (((e - l).toNat : Nat) : Int) = e - l by omega] at this
        rw [hm, this]
        rfl
      simp [outs, h0', h1, q, D.noOwn]
    · have q : ns[(e - l).toNat]? = none := List.getElem?_eq_none (by omega)
      simp [outs, h0', h1, q, D.noOwn]
  · have h0' : ¬ l ≤ e := by omega
    simp [outs, h0', D.noOwn]
end G02

namespace G02
open PySem PySem.Spec PyProof.Rows L2 Vl
theorem eokL_ints : ∀ ns : List Int, D.eokL (ns.map D.int) = true
  | [] => rfl
  | n :: r => by show (D.eok (.int n) && D.eokL (r.map D.int)) = true; rw [eokL_ints r]; rfl
theorem depL_ints : ∀ ns : List Int, D.depL (ns.map D.int) ≤ 1
  | [] => by simp [D.depL]
  | n :: r => by
    have := depL_ints r
    simp [D.depL, D.dep]
    try omega
theorem eqOk_P (l : Int) (ns : List Int) : eqOk (P l ns) = true := by
  have h := depL_ints ns
  unfold eqOk P
  simp [D.eok, D.eokL, eokL_ints, D.dep, D.depL]
  try omega
theorem eqvAll_ints : ∀ ns ns' : List Int, PyData.eqvAll (D.toPL (ns.map D.int)) (D.toPL (ns'.map D.int)) = decide (ns = ns')
  | [], [] => by simp [D.toPL, PyData.eqvAll]
  | [], _ :: _ => by simp [D.toPL, PyData.eqvAll]
  | _ :: _, [] => by simp [D.toPL, PyData.eqvAll]
  | a :: r, b :: s => by
    simp only [List.map_cons, D.toPL, D.toP, PyData.eqvAll, PyData.eqv, eqvAll_ints r s]
    by_cases h : a = b <;> by_cases h2 : r = s <;> simp [h, h2]
theorem pyEq_P (l l' : Int) (ns ns' : List Int) : pyEq (P l ns) (P l' ns') = decide (l = l' ∧ ns = ns') := by
  unfold pyEq P
  simp only [D.toP, D.toPL, PyData.eqv, PyData.eqvAll, eqvAll_ints]
  by_cases h : l = l' <;> by_cases h2 : ns = ns' <;> simp [h, h2]
theorem gEq_P (l l' : Int) (ns ns' : List Int) : gEq (P l ns) (P l' ns') = some (.bl (decide (l = l' ∧ ns = ns'))) := by
  unfold gEq
  rw [eqOk_P, eqOk_P, pyEq_P]
  rfl
theorem gNe_P (l l' : Int) (ns ns' : List Int) : gNe (P l ns) (P l' ns') = some (.bl (!decide (l = l' ∧ ns = ns'))) := by
  unfold gNe
  rw [eqOk_P, eqOk_P, pyEq_P]
  rfl
theorem zeroP : c_ZERO = P 0 [] := rfl
/-- d is the one form of f, its exponents within lo .. hi - 1, its numbers not above B -/
def IsP (d : D) (f : Int → Int) (lo hi : Int) (B : Nat) : Prop := ∃ l ns, d = P l ns ∧ Nf l ns ∧ (∀ e, coef l ns e = f e) ∧ ((ns = [] ∧ l = 0) ∨ (lo ≤ l ∧ l + (ns.length : Nat) ≤ hi)) ∧ ∀ n ∈ ns, n.natAbs ≤ B
theorem IsP.uniq {d d' : D} {f : Int → Int} {lo hi lo' hi' : Int} {B B' : Nat} (h : IsP d f lo hi B) (h' : IsP d' f lo' hi' B') : d = d' := by
  obtain ⟨l, ns, rfl, n1, c1, _⟩ := h
  obtain ⟨l', ns', rfl, n2, c2, _⟩ := h'
  obtain ⟨e1, e2⟩ := n1.uniq n2 fun e => by rw [c1, c2]
  rw [e1, e2]
theorem normal_P (l : Int) (b : Bool) (ns : List Int) (hz : ns.length ≤ 100000) (B : Nat) (hB : ∀ n ∈ ns, n.natAbs ≤ B) : ∃ r, F_normal [.int l, sq b (ns.map .int)] = some (r, []) ∧ IsP r (coef l ns) l (l + (ns.length : Nat)) B := by
  obtain ⟨l', ns', e, h1, h2, _, h4, h5⟩ := norm_poly l ns
  exact ⟨_, normal_ok l b ns hz, l', ns', e, h1, h2, h5, fun n h => hB n (h4 n h)⟩
theorem IsP.out {l : Int} {ns : List Int} {f : Int → Int} {lo hi : Int} (c : ∀ e, coef l ns e = f e) (s : (ns = [] ∧ l = 0) ∨ (lo ≤ l ∧ l + (ns.length : Nat) ≤ hi)) {e : Int} (h : e < lo ∨ hi ≤ e) : f e = 0 := by
  rw [← c]
  rcases s with ⟨s, _⟩ | s
  · subst s; exact coef_out (by simp; omega)
  · exact coef_out (by omega)
theorem coef_bd {l : Int} {ns : List Int} {B : Nat} (hB : ∀ n ∈ ns, n.natAbs ≤ B) (e : Int) : (coef l ns e).natAbs ≤ B := by
  unfold coef
  split
  · cases h : ns[(e - l).toNat]? with
    | none => exact Nat.zero_le _
    | some n => exact hB n (List.mem_of_getElem? h)
  · exact Nat.zero_le _
/-- the numbers of f from lo on -/
def tab (f : Int → Int) (lo : Int) (n : Nat) : List Int := (List.range n).map fun k => f (lo + (k : Nat))
theorem tab_len (f : Int → Int) (lo : Int) (n : Nat) : (tab f lo n).length = n := by unfold tab; rw [List.length_map, List.length_range]
theorem coef_tab {f : Int → Int} {lo : Int} {n : Nat} (h : ∀ e, e < lo ∨ lo + (n : Nat) ≤ e → f e = 0) (e : Int) : coef lo (tab f lo n) e = f e := by
  by_cases ho : e < lo ∨ lo + (n : Nat) ≤ e
  · rw [coef_out (by rw [tab_len]; exact ho), h e ho]
  · obtain ⟨k, rfl⟩ : ∃ k : Nat, e = lo + k := ⟨(e - lo).toNat, by omega⟩
    rw [coef_at (by rw [tab_len]; omega)]
    simp [tab]
theorem mem_tab {f : Int → Int} {lo : Int} {n : Nat} {x : Int} (h : x ∈ tab f lo n) : ∃ k : Nat, k < n ∧ x = f (lo + (k : Nat)) := by
  unfold tab at h
  obtain ⟨k, hk, e⟩ := List.mem_map.mp h
  exact ⟨k, List.mem_range.mp hk, e.symm⟩
theorem rg_map (f : Int → Int) (lo : Int) (n : Nat) (h : D → D) (hh : ∀ i : Int, h (.int i) = .int (f i)) : (rgItems lo n).map h = (tab f lo n).map D.int := by
  unfold rgItems tab
  rw [List.map_map, List.map_map]
  exact List.map_congr_left fun k _ => hh _
theorem IsP.wide {d : D} {f : Int → Int} {lo hi lo' hi' : Int} {B B' : Nat} (h : IsP d f lo hi B) (h1 : lo' ≤ lo) (h2 : hi ≤ hi') (h3 : B ≤ B') : IsP d f lo' hi' B' := by
  obtain ⟨l, ns, e, n, c, s, b⟩ := h
  exact ⟨l, ns, e, n, c, s.imp id fun s => ⟨by omega, by omega⟩, fun x hx => Nat.le_trans (b x hx) h3⟩
theorem IsP.congr {d : D} {f g : Int → Int} {lo hi : Int} {B : Nat} (h : IsP d f lo hi B) (e : ∀ x, f x = g x) : IsP d g lo hi B := by
  rwa [← funext e]
end G02

namespace G02
open PySem PySem.Spec PyProof.Rows L2 Vl
theorem safe_n {O T : List Nat} {d : D} (h : d.noOwn = true) : safe O T d = true := by
  unfold safe
  rw [h, Bool.or_true]
@[simp] theorem safe_i (O T : List Nat) (i : Int) : safe O T (.int i) = true := safe_n rfl
@[simp] theorem safe_b (O T : List Nat) (i : Bool) : safe O T (.bl i) = true := safe_n rfl
@[simp] theorem safe_o (O T : List Nat) : safe O T .non = true := safe_n rfl
@[simp] theorem P_no (l : Int) (ns : List Int) : (P l ns).noOwn = true := by simp [P, D.noOwn, D.noOwnL]
@[simp] theorem safe_P (O T : List Nat) (l : Int) (ns : List Int) : safe O T (P l ns) = true := safe_n (P_no l ns)
@[simp] theorem P_fz (l : Int) (ns : List Int) : (P l ns).noFz = true := by simp [P, D.noFz, D.noFzL]
@[simp] theorem P_frz (l : Int) (ns : List Int) : (P l ns).frz = P l ns := by simp [P, D.frz, D.frzL]
@[simp] theorem P_0 (l : Int) (ns : List Int) : gIxA (P l ns) (.int 0) = some (.int l) := rfl
@[simp] theorem P_1 (l : Int) (ns : List Int) : gIxA (P l ns) (.int 1) = some (.tup (ns.map .int)) := rfl
@[simp] theorem i_no (i : Int) : (D.int i).noOwn = true := rfl
@[simp] theorem i_fz (i : Int) : (D.int i).noFz = true := rfl
@[simp] theorem i_frz (i : Int) : (D.int i).frz = .int i := rfl
@[simp] theorem t_no (ns : List Int) : (D.tup (ns.map .int)).noOwn = true := by simp [D.noOwn]
@[simp] theorem safe_t (O T : List Nat) (ns : List Int) : safe O T (.tup (ns.map .int)) = true := safe_n (t_no ns)
@[simp] theorem t_frz (ns : List Int) : (D.tup (ns.map .int)).frz = .tup (ns.map .int) := by simp [D.frz]
@[simp] theorem l_frz (o : Bool) (ns : List Int) : (D.lst o (ns.map .int)).frz = .lst false (ns.map .int) := by simp [D.frz]
@[simp] theorem frzL_n : D.frzL [] = [] := rfl
@[simp] theorem frzL_c (d : D) (r : List D) : D.frzL (d :: r) = d.frz :: D.frzL r := rfl
@[simp] theorem noOwnL_n : D.noOwnL [] = true := rfl
@[simp] theorem noOwnL_c (d : D) (r : List D) : D.noOwnL (d :: r) = (d.noOwn && D.noOwnL r) := rfl
@[simp] theorem gMinA_2 (a b : Int) : gMinA [.int a, .int b] = some (.int (if b < a then b else a)) := rfl
@[simp] theorem gMaxA_2 (a b : Int) : gMaxA [.int a, .int b] = some (.int (if b > a then b else a)) := rfl
@[simp] theorem gEq_Pz (l l' : Int) (ns ns' : List Int) : gEq (P l ns) (P l' ns') = some (.bl (decide (l = l' ∧ ns = ns'))) := gEq_P l l' ns ns'
@[simp] theorem gEq_PZ (l : Int) (ns : List Int) : gEq (P l ns) c_ZERO = some (.bl (decide (l = 0 ∧ ns = []))) := gEq_P l 0 ns []
theorem coefP (l : Int) (ns : List Int) (e : Int) : F_coefficient [P l ns, .int e] = some (.int (coef l ns e), []) := coefficient_ok l ns e
abbrev plFe : M D := fOp [] [] gAdd (fCall F_coefficient (fCons [0] [] (fVar 0) (fCons [4] [] (fVar 4) fNil))) (fCall F_coefficient (fCons [1] [] (fVar 1) (fCons [4] [] (fVar 4) fNil)))
theorem plus_ok {d d' : D} {f f' : Int → Int} {lo hi : Int} {B B' : Nat} (h : IsP d f lo hi B) (h' : IsP d' f' lo hi B') (b1 : -10000 ≤ lo) (b2 : hi ≤ 10000) : ∃ r, F_plus [d, d'] = some (r, []) ∧ IsP r (fun e => f e + f' e) lo hi (B + B') := by
  obtain ⟨l, ns, rfl, n1, c1, s1, z1⟩ := h
  obtain ⟨l', ns', rfl, n2, c2, s2, z2⟩ := h'
  by_cases e1 : l = 0 ∧ ns = []
  · refine ⟨P l' ns', ?_, l', ns', rfl, n2, fun e => ?_, s2, fun n hn => Nat.le_trans (z2 n hn) (by omega)⟩
    · unfold F_plus runF
      simp [outs, e1]
    · show coef l' ns' e = f e + f' e
      rw [c2, ← c1, coef_out (by rw [e1.2]; simp; omega), Int.zero_add]
  · by_cases e2 : l' = 0 ∧ ns' = []
    · refine ⟨P l ns, ?_, l, ns, rfl, n1, fun e => ?_, s1, fun n hn => Nat.le_trans (z1 n hn) (by omega)⟩
      · unfold F_plus runF
        simp [outs, e1, e2]
      · show _ = f e + f' e
        rw [c1, ← c2, coef_out (by rw [e2.2]; simp; omega), Int.add_zero]
    · have q1 : lo ≤ l ∧ l + (ns.length : Nat) ≤ hi := s1.resolve_left fun q => e1 ⟨q.2, q.1⟩
      have q2 : lo ≤ l' ∧ l' + (ns'.length : Nat) ≤ hi := s2.resolve_left fun q => e2 ⟨q.2, q.1⟩
      obtain ⟨m, hm⟩ : ∃ m, m = if l' < l then l' else l := ⟨_, rfl⟩
      obtain ⟨t, ht⟩ : ∃ t, t = if l' + (ns'.length : Nat) > l + (ns.length : Nat) then l' + (ns'.length : Nat) else l + (ns.length : Nat) := ⟨_, rfl⟩
      have m1 : lo ≤ m ∧ m ≤ l ∧ m ≤ l' := by rw [hm]; split <;> omega
      have t1 : t ≤ hi ∧ l + (ns.length : Nat) ≤ t ∧ l' + (ns'.length : Nat) ≤ t := by rw [ht]; split <;> omega
      let g : Int → Int := fun e => coef l ns e + coef l' ns' e
      have hg : ∀ e, e < m ∨ m + ((t - m).toNat : Nat) ≤ e → g e = 0 := fun e he => by
        show coef l ns e + coef l' ns' e = 0
        rw [coef_out (by omega), coef_out (by omega)]
        rfl
      obtain ⟨r, hr, pr⟩ := normal_P m true (tab g m (t - m).toNat) (by rw [tab_len]; omega) (B + B') fun n hn => by
        obtain ⟨k, _, e⟩ := mem_tab hn
        have a1 := coef_bd (l := l) z1 (m + (k : Nat))
        have a2 := coef_bd (l := l') z2 (m + (k : Nat))
        have a3 : n = coef l ns (m + (k : Nat)) + coef l' ns' (m + (k : Nat)) := e
        omega
      refine ⟨r, ?_, ?_⟩
      · have hc : fComp [4] (iRg2 (fCons [2] [] (fVar 2) (fCons [3] [] (fVar 3) fNil))) (gNm 4) fYes plFe [some (P l ns), some (P l' ns'), some (.int m), some (.int t), none] = some (.lst true ((tab g m (t - m).toNat).map .int), [some (P l ns), some (P l' ns'), some (.int m), some (.int t), none]) := by
          have k1 : okR m = true := by simp [okR]; omega
          have k2 : okR t = true := by simp [okR]; omega
          rw [← rg_map g m (t - m).toNat (fun d => match d with | .int i => .int (g i) | d => d) fun i => rfl]
          refine fComp_all _ (by simp [k1, k2]) (by simp [ownOk]) (fun d hd => ?_) (by rw [rgItems_length]; omega)
          unfold rgItems at hd
          obtain ⟨k, _, rfl⟩ := List.mem_map.mp hd
          simp [coefP, g]
        have hr2 : F_normal [.int m, .lst false ((tab g m (t - m).toNat).map .int)] = some (r, []) := hr
        unfold F_plus runF
        have hf : r.noFz = true := by obtain ⟨a, b, e, _⟩ := pr; rw [e]; simp
        simp [-fComp_r, outs, e1, e2, ← hm, ← ht, hc, hr2, hf]
      · obtain ⟨a, b, c, d1, d2, d3, d4⟩ := pr
        refine ⟨a, b, c, d1, fun e => ?_, ?_, d4⟩
        · rw [d2, coef_tab hg]
          show coef l ns e + coef l' ns' e = _
          rw [c1, c2]
        · rw [tab_len] at d3
          exact d3.imp id fun q => ⟨by omega, by omega⟩
end G02

namespace G02
open PySem PySem.Spec PyProof.Rows L2 Vl
@[simp] theorem items_t (ns : List Int) : itemsOf (.tup (ns.map .int)) = some (ns.map .int) := by simp [itemsOf]
@[simp] theorem gTuple_l (o : Bool) (ns : List Int) : gTuple [.lst o (ns.map .int)] = some (.tup (ns.map .int)) := by simp [gTuple]
theorem IsP.fz {d : D} {f : Int → Int} {lo hi : Int} {B : Nat} (h : IsP d f lo hi B) : d.noFz = true := by
  obtain ⟨l, ns, rfl, _⟩ := h
  simp
theorem map_int (h : D → D) (f : Int → Int) (hh : ∀ i, h (.int i) = .int (f i)) (ns : List Int) : (ns.map D.int).map h = (ns.map f).map D.int := by
  rw [List.map_map, List.map_map]
  exact List.map_congr_left fun k _ => hh k
theorem coef_map (f : Int → Int) (f0 : f 0 = 0) (l : Int) (ns : List Int) (e : Int) : coef l (ns.map f) e = f (coef l ns e) := by
  unfold coef
  split
  · rw [List.getElem?_map]
    cases ns[(e - l).toNat]? with
    | none => exact f0.symm
    | some n => rfl
  · exact f0.symm
theorem Nf.map {f : Int → Int} (hf : ∀ n, n ≠ 0 → f n ≠ 0) {l : Int} {ns : List Int} (h : Nf l ns) : Nf l (ns.map f) := by
  rcases h with ⟨e, e2⟩ | ⟨⟨a, r, e, ha⟩, r', z, e', hz⟩
  · exact .inl ⟨by rw [e]; rfl, e2⟩
  · exact .inr ⟨⟨f a, r.map f, by rw [e]; rfl, hf a ha⟩, r'.map f, f z, by rw [e', List.map_append]; rfl, hf z hz⟩
end G02

namespace G02
open PySem PySem.Spec PyProof.Rows L2 Vl
@[simp] theorem gNm_r (i : Nat) (d : D) (ρ : Vl.Env) : gNm i d ρ = some (ρ.set i (some d)) := rfl
@[simp] theorem gTp_r (i j : Nat) (a b : D) (ρ : Vl.Env) : gTp 2 (gsCons (gNm i) (gsCons (gNm j) gsNil)) (.tup [a, b]) ρ = some ((ρ.set i (some a)).set j (some b)) := rfl
theorem single_ok (c x : Int) (B : Nat) (hB : c.natAbs ≤ B) : ∃ r, F_single [.int c, .int x] = some (r, []) ∧ IsP r (fun e => if e = x then c else 0) x (x + 1) B := by
  obtain ⟨r, hr, pr⟩ := normal_P x false [c] (by simp) B fun n hn => by rw [List.mem_singleton.mp hn]; exact hB
  have hr2 : F_normal [.int x, .tup [.int c]] = some (r, []) := hr
  have f2 := pr.fz
  refine ⟨r, ?_, ?_⟩
  · unfold F_single runF
    have e1 : (D.tup [D.int c]).frz = .tup [.int c] := rfl
    have e2 : (D.tup [D.int c]).noOwn = true := rfl
    simp [outs, hr2, f2, szOk, e1, e2]
  · obtain ⟨a, b, e, d1, d2, d3, d4⟩ := pr
    refine ⟨a, b, e, d1, fun y => ?_, d3, d4⟩
    show coef a b y = if y = x then c else 0
    rw [d2]
    by_cases h : y = x
    · subst h
      rw [if_pos rfl]
      simp [coef]
    · rw [if_neg h]
      exact coef_out (by simp; omega)
theorem coef_rev (l : Int) (ns : List Int) (e : Int) : coef (-(l + (ns.length : Nat) - 1)) ns.reverse e = coef l ns (-e) := by
  by_cases h : -e < l ∨ l + (ns.length : Nat) ≤ -e
  · rw [coef_out h, coef_out (by rw [List.length_reverse]; omega)]
  · obtain ⟨k, hk⟩ : ∃ k : Nat, -e = l + k := ⟨(-e - l).toNat, by omega⟩
    have hk1 : k < ns.length := by omega
    rw [hk, coef_at hk1]
    have e1 : e = -(l + (ns.length : Nat) - 1) + ((ns.length - 1 - k : Nat) : Int) := by omega
    rw [e1, coef_at (by rw [List.length_reverse]; omega), List.getElem_reverse]
    congr 1
    omega
end G02

namespace G02
open PySem PySem.Spec PyProof.Rows L2 Vl
def cv : Int → List Int → (Int → Int) → Int → Int
  | _, [], _, _ => 0
  | l, n :: r, g, e => n * g (e - l) + cv (l + 1) r g e
def inn (acc : List Int) (k : Nat) (f : Int) : List Int → List Int
  | [] => acc
  | s :: r => inn (acc.set k ((acc[k]?).getD 0 + f * s)) (k + 1) f r
theorem inn_len (f : Int) : ∀ (rest acc : List Int) (k : Nat), (inn acc k f rest).length = acc.length
  | [], _, _ => rfl
  | s :: r, acc, k => by unfold inn; rw [inn_len f r, List.length_set]
theorem coef_set {acc : List Int} {k : Nat} (h : k < acc.length) (b v e : Int) : coef b (acc.set k v) e = if e = b + (k : Nat) then v else coef b acc e := by
  by_cases he : e = b + (k : Nat)
  · subst he
    rw [if_pos rfl, coef_at (by rw [List.length_set]; exact h), List.getElem_set_self]
  · rw [if_neg he]
    unfold coef
    split
    · rw [List.getElem?_set_ne (by omega)]
    · rfl
theorem coef_cons (b s : Int) (r : List Int) (e : Int) : coef b (s :: r) e = (if e = b then s else 0) + coef (b + 1) r e := by
  by_cases he : e = b
  · subst he
    rw [if_pos rfl, coef_out (l := e + 1) (.inl (by omega))]
    simp [coef]
  · rw [if_neg he, Int.zero_add]
    unfold coef
    by_cases h : 0 ≤ e - b
    · rw [if_pos h, if_pos (by omega)]
      obtain ⟨m, hm⟩ : ∃ m : Nat, (e - b).toNat = m + 1 := ⟨(e - b).toNat - 1, by omega⟩
      rw [hm, show (e - (b + 1)).toNat = m by omega]
      rfl
    · rw [if_neg h, if_neg (by omega)]
theorem coef_inn (b f : Int) : ∀ (rest acc : List Int) (k : Nat) (e : Int), k + rest.length ≤ acc.length → coef b (inn acc k f rest) e = coef b acc e + f * coef (b + (k : Nat)) rest e
  | [], acc, k, e, _ => by
    rw [coef_out (l := b + (k : Nat)) (by simp; omega)]
    simp [inn]
  | s :: r, acc, k, e, h => by
    have h : k + (r.length + 1) ≤ acc.length := h
    unfold inn
    rw [coef_inn b f r _ (k + 1) e (by rw [List.length_set]; omega), coef_set (by omega), coef_cons]
    have e1 : b + ((k + 1 : Nat) : Int) = b + (k : Nat) + 1 := by omega
    rw [e1]
    by_cases he : e = b + (k : Nat)
    · subst he
      rw [if_pos rfl, if_pos rfl, coef_at (by omega), List.getElem?_eq_getElem (by omega)]
      show acc[k] + f * s + _ = acc[k] + f * (s + _)
      rw [Int.mul_add, Int.add_assoc]
    · rw [if_neg he, if_neg he, Int.zero_add]
def out (ns' : List Int) (acc : List Int) (k : Nat) : List Int → List Int
  | [] => acc
  | n :: r => out ns' (inn acc k n ns') (k + 1) r
theorem coef_sh (l l' k : Int) (ns' : List Int) (e : Int) : coef (l + l' + k) ns' e = coef l' ns' (e - (l + k)) := by
  unfold coef
  rw [show e - (l + l' + k) = e - (l + k) - l' by omega]
theorem out_len (ns' : List Int) : ∀ (rest acc : List Int) (k : Nat), (out ns' acc k rest).length = acc.length
  | [], _, _ => rfl
  | n :: r, acc, k => by unfold out; rw [out_len ns' r, inn_len]
theorem coef_out_ (l l' : Int) (ns' : List Int) : ∀ (rest acc : List Int) (k : Nat) (e : Int), k + rest.length + ns'.length ≤ acc.length + 1 → coef (l + l') (out ns' acc k rest) e = coef (l + l') acc e + cv (l + (k : Nat)) rest (coef l' ns') e
  | [], acc, k, e, _ => by simp [out, cv]
  | n :: r, acc, k, e, h => by
    have h : k + (r.length + 1) + ns'.length ≤ acc.length + 1 := h
    unfold out cv
    rw [coef_out_ l l' ns' r _ (k + 1) e (by rw [inn_len]; omega), coef_inn _ _ _ _ _ _ (by omega), coef_sh]
    have e1 : l + ((k + 1 : Nat) : Int) = l + (k : Nat) + 1 := by omega
    rw [e1, Int.add_assoc]
theorem cv_bd {B B' : Nat} {g : Int → Int} (hg : ∀ e, (g e).natAbs ≤ B') : ∀ (ns : List Int) (l e : Int), (∀ n ∈ ns, n.natAbs ≤ B) → (cv l ns g e).natAbs ≤ ns.length * (B * B')
  | [], _, _, _ => by simp [cv]
  | n :: r, l, e, h => by
    have ih := cv_bd hg r (l + 1) e fun m hm => h m (List.mem_cons_of_mem _ hm)
    have h1 : (n * g (e - l)).natAbs ≤ B * B' := by rw [Int.natAbs_mul]; exact Nat.mul_le_mul (h n List.mem_cons_self) (hg _)
    unfold cv
    rw [List.length_cons, Nat.succ_mul]
    have := Int.natAbs_add_le (n * g (e - l)) (cv (l + 1) r g e)
    omega
theorem get_ints {acc : List Int} {k : Nat} (h : k < acc.length) : gGet (.lst true (acc.map .int)) (.int (k : Int)) = some (.int ((acc[k]?).getD 0)) := by
  show L2.atI (acc.map D.int) (k : Int) = _
  have e : acc[k]? = some acc[k] := List.getElem?_eq_getElem h
  rw [atI_i e, e]
  rfl
theorem set_ints {acc : List Int} {k : Nat} (h : k < acc.length) (v : Int) : gSet (.lst true (acc.map .int)) (.int (k : Int)) (.int v) = some (.lst true ((acc.set k v).map .int)) := by
  have e : L2.ixN (acc.map D.int).length (k : Int) = some k := by
    unfold L2.ixN
    rw [List.length_map, if_pos (by omega), if_pos (by omega), Int.toNat_natCast]
  show (if D.noOwnL (acc.map D.int) = true then (L2.ixN (acc.map D.int).length (k : Int)).map fun j => D.lst true ((acc.map D.int).set j (.int v)) else none) = _
  rw [if_pos (noOwnL_ints _), e]
  simp [List.map_set]
abbrev tmB : MS := sAugS 2 gAddI (fOp [3] [] gAdd (fVar 3) (fVar 5)) (fOp [4] [] gMul (fVar 4) (fVar 6))
abbrev tmG : D → Vl.Env → Option Vl.Env := gTp 2 (gsCons (gNm 5) (gsCons (gNm 6) gsNil))
theorem times_in (A B : Option D) (k0 : Nat) (f : Int) : ∀ (rest acc : List Int) (j : Nat) (x5 x6 : Option D), k0 + j + rest.length ≤ acc.length → (∀ s ∈ rest, gMul (.int f) (.int s) = some (.int (f * s))) →
    ∃ y5 y6, forL tmG tmB (enumD j (rest.map .int)) [A, B, some (.lst true (acc.map .int)), some (.int (k0 : Int)), some (.int f), x5, x6] = some (.nx [A, B, some (.lst true ((inn acc (k0 + j) f rest).map .int)), some (.int (k0 : Int)), some (.int f), y5, y6])
  | [], acc, j, x5, x6, _, _ => ⟨x5, x6, rfl⟩
  | s :: r, acc, j, x5, x6, h, hm => by
    have h : k0 + j + (r.length + 1) ≤ acc.length := h
    obtain ⟨y5, y6, ih⟩ := times_in A B k0 f r (acc.set (k0 + j) ((acc[k0 + j]?).getD 0 + f * s)) (j + 1) (some (.int (j : Int))) (some (.int s)) (by rw [List.length_set]; omega) fun x hx => hm x (List.mem_cons_of_mem _ hx)
    refine ⟨y5, y6, ?_⟩
    have e1 := get_ints (acc := acc) (k := k0 + j) (by omega)
    have e2 := set_ints (acc := acc) (k := k0 + j) (by omega) ((acc[k0 + j]?).getD 0 + f * s)
    have e3 := hm s List.mem_cons_self
    have ek : (((k0 + j : Nat)) : Int) = (k0 : Int) + (j : Int) := by omega
    rw [ek] at e1 e2
    rw [List.map_cons]
    unfold enumD forL inn
    rw [show k0 + (j + 1) = k0 + j + 1 by omega] at ih
    simp [-List.map_set, e1, e2, e3]
    exact ih
end G02

namespace G02
open PySem PySem.Spec PyProof.Rows L2 Vl
abbrev tmO : MS := sFor (iEnm (fOp [1] [] gIxA (fVar 1) (fC (.int 1)))) tmG tmB
abbrev tmH : D → Vl.Env → Option Vl.Env := gTp 2 (gsCons (gNm 3) (gsCons (gNm 4) gsNil))
theorem times_out (A : Option D) (l' : Int) (ns' : List Int) : ∀ (rest acc : List Int) (k : Nat) (x3 x4 x5 x6 : Option D), k + rest.length + ns'.length ≤ acc.length + 1 → (∀ f ∈ rest, ∀ s ∈ ns', gMul (.int f) (.int s) = some (.int (f * s))) →
    ∃ y3 y4 y5 y6, forL tmH tmO (enumD k (rest.map .int)) [A, some (P l' ns'), some (.lst true (acc.map .int)), x3, x4, x5, x6] = some (.nx [A, some (P l' ns'), some (.lst true ((out ns' acc k rest).map .int)), y3, y4, y5, y6])
  | [], acc, k, x3, x4, x5, x6, _, _ => ⟨x3, x4, x5, x6, rfl⟩
  | f :: r, acc, k, x3, x4, x5, x6, h, hm => by
    have h : k + (r.length + 1) + ns'.length ≤ acc.length + 1 := h
    obtain ⟨y5, y6, h1⟩ := times_in A (some (P l' ns')) k f ns' acc 0 x5 x6 (by omega) (hm f List.mem_cons_self)
    obtain ⟨z3, z4, z5, z6, ih⟩ := times_out A l' ns' r (inn acc k f ns') (k + 1) (some (.int (k : Int))) (some (.int f)) y5 y6 (by rw [inn_len]; omega) fun x hx => hm x (List.mem_cons_of_mem _ hx)
    refine ⟨z3, z4, z5, z6, ?_⟩
    rw [Nat.add_zero] at h1
    rw [List.map_cons]
    unfold enumD forL out
    simp [h1]
    exact ih
theorem Nf.zero_ {l : Int} {ns : List Int} (h : Nf l ns) (e : ns = []) : l = 0 := by
  subst e
  rcases h with ⟨_, q⟩ | ⟨⟨a, r, q, _⟩, _⟩
  · exact q
  · cases q
theorem rep_zero (n : Nat) : (List.replicate n [D.int 0]).flatten = (List.replicate n (0 : Int)).map D.int := by
  induction n with
  | zero => rfl
  | succ n ih => rw [List.replicate_succ, List.flatten_cons, ih, List.replicate_succ]; rfl
theorem coef_rep (b : Int) (n : Nat) (e : Int) : coef b (List.replicate n 0) e = 0 := by
  unfold coef
  split
  · rw [List.getElem?_replicate]
    split <;> rfl
  · rfl
theorem times_ok {d d' : D} {f f' : Int → Int} {lo hi lo' hi' : Int} {B B' : Nat} (h : IsP d f lo hi B) (h' : IsP d' f' lo' hi' B') (b1 : -10000 ≤ lo) (b2 : hi ≤ 10000) (b3 : -10000 ≤ lo') (b4 : hi' ≤ 10000) (hB : B < 2 ^ 400000) (hB' : B' < 2 ^ 400000) :
    ∃ r l ns, d = P l ns ∧ Nf l ns ∧ (∀ e, coef l ns e = f e) ∧ ((ns = [] ∧ l = 0) ∨ (lo ≤ l ∧ l + (ns.length : Nat) ≤ hi)) ∧ F_times [d, d'] = some (r, []) ∧ IsP r (cv l ns f') (lo + lo') (hi + hi') (20000 * (B * B')) := by
  obtain ⟨l, ns, rfl, n1, c1, s1, z1⟩ := h
  obtain ⟨l', ns', rfl, n2, c2, s2, z2⟩ := h'
  have zz : IsP (P 0 []) (fun _ => 0) (lo + lo') (hi + hi') (20000 * (B * B')) := ⟨0, [], rfl, .inl ⟨rfl, rfl⟩, fun e => coef_out (by simp; omega), .inl ⟨rfl, rfl⟩, fun _ h => (by cases h)⟩
  by_cases e1 : l = 0 ∧ ns = []
  · refine ⟨P 0 [], l, ns, rfl, n1, c1, s1, ?_, zz.congr fun e => by rw [e1.2]; rfl⟩
    unfold F_times runF
    simp [outs, e1]
    rfl
  · by_cases e2 : l' = 0 ∧ ns' = []
    · refine ⟨P 0 [], l, ns, rfl, n1, c1, s1, ?_, zz.congr fun e => ?_⟩
      · unfold F_times runF
        simp [outs, e1, e2]
        rfl
      · have hz : ∀ x, f' x = 0 := fun x => by rw [← c2, e2.2]; exact coef_out (by simp; omega)
        have : ∀ (m : List Int) (l e : Int), cv l m f' e = 0 := by
          intro m
          induction m with
          | nil => intro l e; rfl
          | cons n r ih => intro l e; unfold cv; rw [ih, hz]; simp
        rw [this]
    · have q1 : lo ≤ l ∧ l + (ns.length : Nat) ≤ hi := s1.resolve_left fun q => e1 ⟨q.2, q.1⟩
      have q2 : lo' ≤ l' ∧ l' + (ns'.length : Nat) ≤ hi' := s2.resolve_left fun q => e2 ⟨q.2, q.1⟩
      have p1 : 0 < ns.length := List.length_pos_iff.mpr fun e => e1 ⟨n1.zero_ e, e⟩
      have p2 : 0 < ns'.length := List.length_pos_iff.mpr fun e => e2 ⟨n2.zero_ e, e⟩
      have hm : ∀ x ∈ ns, ∀ s ∈ ns', gMul (.int x) (.int s) = some (.int (x * s)) := fun x hx s hs => gMul_i (by
        have a1 := z1 x hx
        have a2 := z2 s hs
        unfold cMul bitsOk
        rw [decide_eq_true (show x.natAbs < 2 ^ 400000 from Nat.lt_of_le_of_lt a1 hB), decide_eq_true (show s.natAbs < 2 ^ 400000 from Nat.lt_of_le_of_lt a2 hB')]
        simp)
      generalize hN : ns.length + ns'.length - 1 = N
      obtain ⟨y3, y4, y5, y6, hloop⟩ := times_out (some (P l ns)) l' ns' ns (List.replicate N 0) 0 none none none none (by rw [List.length_replicate]; omega) hm
      have hco : ∀ e, coef (l + l') (out ns' (List.replicate N 0) 0 ns) e = cv l ns f' e := fun e => by
        rw [coef_out_ l l' ns' ns _ 0 e (by rw [List.length_replicate]; omega), coef_rep, Int.zero_add]
        rw [show l + ((0 : Nat) : Int) = l by omega, funext c2]
      have hol : (out ns' (List.replicate N 0) 0 ns).length = N := by rw [out_len, List.length_replicate]
      generalize hO : out ns' (List.replicate N 0) 0 ns = O at hloop hco hol
      have hfb : ∀ e, (f' e).natAbs ≤ B' := fun e => by rw [← c2]; exact coef_bd z2 e
      obtain ⟨r, hr, pr⟩ := normal_P (l + l') true O (by omega) (20000 * (B * B')) fun n hn => by
        obtain ⟨k, hk, rfl⟩ := List.mem_iff_getElem.mp hn
        rw [← coef_at (l := l + l') hk, hco]
        exact Nat.le_trans (cv_bd hfb ns l _ z1) (Nat.mul_le_mul_right _ (by omega))
      refine ⟨r, l, ns, rfl, n1, c1, s1, ?_, ?_⟩
      · have hr2 : F_normal [.int (l + l'), .lst false (O.map .int)] = some (r, []) := hr
        have g2 := pr.fz
        have hrep : gMul (.lst true [D.int 0]) (.int ((ns.length : Int) + (ns'.length : Int) - 1)) = some (.lst true ((List.replicate N (0 : Int)).map D.int)) := by
          have ek : (ns.length : Int) + (ns'.length : Int) - 1 = ((N : Nat) : Int) := by omega
          rw [ek]
          show (if (repOk [D.int 0].length ((N : Nat) : Int) && D.noOwnL [D.int 0]) = true then some (D.lst true (rep ((N : Nat) : Int) [D.int 0])) else none) = _
          rw [if_pos (by simp [repOk]; omega)]
          show some (D.lst true ((List.replicate ((N : Nat) : Int).toNat [D.int 0]).flatten)) = _
          rw [Int.toNat_natCast, rep_zero]
        unfold F_times runF
        simp [-List.map_replicate, outs, e1, e2, szOk, hrep, hloop, hr2, g2]
      · obtain ⟨a, b, e, d1, d2, d3, d4⟩ := pr
        refine ⟨a, b, e, d1, fun e => by rw [d2, hco], d3.imp id fun q => ?_, d4⟩
        rw [hol] at q
        omega
end G02

namespace G02
open PySem PySem.Spec PyProof.Rows L2 Vl
/-! ### dicts from ints to ints -/
def en (kv : List (Int × Int)) : List (D × D) := kv.map fun p => (.int p.1, .int p.2)
def DK (o : Bool) (kv : List (Int × Int)) : D := .dct o false (en kv)
def lk : List (Int × Int) → Int → Option Int
  | [], _ => none
  | p :: r, k => if p.1 = k then some p.2 else lk r k
def hk : List (Int × Int) → Int → Bool
  | [], _ => false
  | p :: r, k => decide (p.1 = k) || hk r k
def pt (kv : List (Int × Int)) (k v : Int) : List (Int × Int) := if hk kv k = true then kv.map fun p => if p.1 = k then (p.1, v) else p else kv ++ [(k, v)]
def dl (kv : List (Int × Int)) (k : Int) : List (Int × Int) := kv.filter fun p => !decide (p.1 = k)
theorem lk_c (p : Int × Int) (r : List (Int × Int)) (k : Int) : lk (p :: r) k = if p.1 = k then some p.2 else lk r k := rfl
def ks (kv : List (Int × Int)) : List Int := kv.map (·.1)
theorem kEq_i (i j : Int) : kEq (.int i) (.int j) = decide (i = j) := rfl
theorem lookD_en (k : Int) : ∀ kv, lookD (en kv) (.int k) = (lk kv k).map D.int
  | [] => rfl
  | p :: r => by
    show (if kEq (.int p.1) (.int k) = true then some (D.int p.2) else lookD (en r) (.int k)) = _
    rw [kEq_i, lookD_en k r, lk_c]
    by_cases h : p.1 = k
    · rw [if_pos (by simpa using h), if_pos h]; rfl
    · rw [if_neg (by simpa using h), if_neg h]
theorem hasD_en (k : Int) : ∀ kv, hasD (en kv) (.int k) = hk kv k
  | [] => rfl
  | p :: r => by
    show (kEq (.int p.1) (.int k) || hasD (en r) (.int k)) = _
    rw [kEq_i, hasD_en k r]
    rfl
theorem putD_en (kv : List (Int × Int)) (k v : Int) : putD (en kv) (.int k) (.int v) = en (pt kv k v) := by
  unfold putD pt
  rw [hasD_en]
  by_cases h : hk kv k = true
  · rw [if_pos h, if_pos h]
    unfold replD en
    rw [List.map_map, List.map_map]
    refine List.map_congr_left fun p _ => ?_
    show (if kEq (.int p.1) (.int k) = true then _ else _) = _
    rw [kEq_i]
    by_cases e : p.1 = k
    · rw [if_pos (by simpa using e)]
      simp [e]
    · rw [if_neg (by simpa using e)]
      simp [e]
  · rw [if_neg h, if_neg h]
    simp [en]
theorem delD_en (kv : List (Int × Int)) (k : Int) : delD (en kv) (.int k) = en (dl kv k) := by
  unfold delD dl en
  rw [List.filter_map]
  rfl
theorem en_ks (kv : List (Int × Int)) : (en kv).map (·.1) = (ks kv).map D.int := by
  unfold en ks
  rw [List.map_map, List.map_map]
  rfl
theorem en_no : ∀ kv, D.noOwnP (en kv) = true
  | [] => rfl
  | p :: r => by show (D.noOwn (.int p.2) && D.noOwnP (en r)) = true; rw [en_no r]; rfl
theorem en_fz : ∀ kv, D.noFzP (en kv) = true
  | [] => rfl
  | p :: r => by show (D.noFz (.int p.2) && D.noFzP (en r)) = true; rw [en_fz r]; rfl
theorem en_frz : ∀ kv, D.frzP (en kv) = en kv
  | [] => rfl
  | p :: r => by show (D.int p.1, D.frz (.int p.2)) :: D.frzP (en r) = _; rw [en_frz r]; rfl
@[simp] theorem DK_frz (o : Bool) (kv : List (Int × Int)) : (DK o kv).frz = DK false kv := by show D.dct false false (D.frzP (en kv)) = _; rw [en_frz]; rfl
@[simp] theorem DK_fz (kv : List (Int × Int)) : (DK true kv).noFz = true := by show (true && D.noFzP (en kv)) = true; rw [en_fz]; rfl
@[simp] theorem DK_no (kv : List (Int × Int)) : (DK false kv).noOwn = true := by show (!false && D.noOwnP (en kv)) = true; rw [en_no]; rfl
theorem DK_get {o : Bool} {kv : List (Int × Int)} {k v : Int} (h : lk kv k = some v) : gIxA (DK o kv) (.int k) = some (.int v) := by
  show lookD (en kv) (.int k) = _
  rw [lookD_en, h]
  rfl
theorem DK_get2 (o : Bool) (kv : List (Int × Int)) (k z : Int) : gGet2 (DK o kv) (.int k) (.int z) = some (.int ((lk kv k).getD z)) := by
  show some ((lookD (en kv) (.int k)).getD (.int z)) = _
  rw [lookD_en]
  cases lk kv k <;> rfl
theorem DK_set {kv : List (Int × Int)} (k v : Int) (h : kv.length ≤ 100000) : gSet (DK true kv) (.int k) (.int v) = some (DK true (pt kv k v)) := by
  show (if (D.noOwnP (en kv) && szOk (en kv).length) = true then some (D.dct true false (putD (en kv) (.int k) (.int v))) else none) = _
  rw [if_pos (by rw [en_no]; simp [szOk, en, h]), putD_en]
  rfl
theorem DK_pop {kv : List (Int × Int)} {k v : Int} (h : lk kv k = some v) : gDpop (DK true kv) (.int k) = some (.int v, DK true (dl kv k)) := by
  show (if D.noOwnP (en kv) = true then (lookD (en kv) (.int k)).map fun d => (d, D.dct true false (delD (en kv) (.int k))) else none) = _
  rw [if_pos (en_no kv), lookD_en, h, delD_en]
  rfl
theorem lk_map (k v e : Int) : ∀ kv : List (Int × Int), lk (kv.map fun p => if p.1 = k then (p.1, v) else p) e = if e = k then (lk kv e).map fun _ => v else lk kv e
  | [] => by simp [lk]
  | p :: r => by
    rw [List.map_cons]
    unfold lk
    rw [lk_map k v e r]
    by_cases h1 : p.1 = k
    · by_cases h2 : e = k
      · subst h2; simp [h1]
      · have : ¬ k = e := fun h => h2 h.symm
        simp [h1, h2, this]
    · by_cases h2 : e = k
      · subst h2; simp [h1]
      · simp [h1, h2]
theorem lk_app (k v e : Int) : ∀ kv : List (Int × Int), lk (kv ++ [(k, v)]) e = (lk kv e).or (if e = k then some v else none)
  | [] => by
    show (if k = e then some v else none) = _
    by_cases h : e = k
    · simp [h, lk]
    · have : ¬ k = e := fun h' => h h'.symm
      simp [h, this, lk]
  | p :: r => by
    show (if p.1 = e then some p.2 else lk (r ++ [(k, v)]) e) = _
    rw [lk_app k v e r]
    show _ = (if p.1 = e then some p.2 else lk r e).or _
    split <;> simp
theorem hk_lk (k : Int) : ∀ kv : List (Int × Int), hk kv k = (lk kv k).isSome
  | [] => rfl
  | p :: r => by
    unfold hk lk
    rw [hk_lk k r]
    by_cases h : p.1 = k <;> simp [h]
theorem lk_pt (kv : List (Int × Int)) (k v e : Int) : lk (pt kv k v) e = if e = k then some v else lk kv e := by
  unfold pt
  rw [hk_lk]
  by_cases h : e = k
  · subst h
    cases hl : lk kv e with
    | none => simp [lk_app, hl]
    | some w => simp [lk_map, hl]
  · cases hl : lk kv k with
    | none => simp [lk_app, h]
    | some w => simp [lk_map, h]
theorem lk_none {k : Int} : ∀ {kv : List (Int × Int)}, k ∉ ks kv → lk kv k = none
  | [], _ => rfl
  | p :: r, h => by
    unfold lk
    have h1 : p.1 ≠ k := fun e => h (by rw [← e]; exact List.mem_cons_self)
    rw [if_neg h1, lk_none fun q => h (List.mem_cons_of_mem _ q)]
theorem lk_ks {k : Int} : ∀ {kv : List (Int × Int)}, k ∈ ks kv → ∃ v, lk kv k = some v
  | [], h => by cases h
  | p :: r, h => by
    unfold lk
    by_cases e : p.1 = k
    · exact ⟨_, if_pos e⟩
    · rw [if_neg e]
      exact lk_ks ((List.mem_cons.mp h).resolve_left fun q => e q.symm)
theorem lk_mem {k v : Int} : ∀ {kv : List (Int × Int)}, lk kv k = some v → (k, v) ∈ kv
  | [], h => by cases h
  | p :: r, h => by
    unfold lk at h
    by_cases e : p.1 = k
    · rw [if_pos e] at h
      cases h
      subst e
      exact List.mem_cons_self
    · rw [if_neg e] at h
      exact List.mem_cons_of_mem _ (lk_mem h)
theorem lk_of {k v : Int} : ∀ {kv : List (Int × Int)}, (ks kv).Nodup → (k, v) ∈ kv → lk kv k = some v
  | [], _, h => by cases h
  | p :: r, n, h => by
    have n := List.nodup_cons.mp n
    unfold lk
    rcases List.mem_cons.mp h with e | h
    · subst e
      exact if_pos rfl
    · have : p.1 ≠ k := fun e => n.1 (by show p.1 ∈ _; rw [e]; exact List.mem_map.mpr ⟨(k, v), h, rfl⟩)
      rw [if_neg this]
      exact lk_of n.2 h
theorem ks_pt (kv : List (Int × Int)) (k v : Int) : ks (pt kv k v) = if hk kv k = true then ks kv else ks kv ++ [k] := by
  unfold pt
  split
  · unfold ks
    rw [List.map_map]
    refine List.map_congr_left fun p _ => ?_
    show (if p.1 = k then (p.1, v) else p).1 = p.1
    split <;> rfl
  · simp [ks]
theorem nodup_pt {kv : List (Int × Int)} (h : (ks kv).Nodup) (k v : Int) : (ks (pt kv k v)).Nodup := by
  rw [ks_pt]
  split
  · exact h
  · rename_i hn
    have : k ∉ ks kv := fun q => hn (by obtain ⟨w, e⟩ := lk_ks q; rw [hk_lk, e]; rfl)
    rw [List.nodup_append]
    refine ⟨h, by simp, fun a ha b hb => ?_⟩
    rw [List.mem_singleton.mp hb]
    exact fun e => this (e ▸ ha)
theorem mem_pt {kv : List (Int × Int)} {k v : Int} {p : Int × Int} (h : p ∈ pt kv k v) : p = (k, v) ∨ p ∈ kv := by
  unfold pt at h
  split at h
  · obtain ⟨q, hq, e⟩ := List.mem_map.mp h
    split at e
    · rename_i e1; subst e1; exact .inl e.symm
    · subst e; exact .inr hq
  · rcases List.mem_append.mp h with h | h
    · exact .inr h
    · exact .inl (List.mem_singleton.mp h)
theorem ks_dl (kv : List (Int × Int)) (k : Int) : (ks (dl kv k)).Sublist (ks kv) := List.Sublist.map _ List.filter_sublist
theorem lk_dl (k e : Int) : ∀ kv : List (Int × Int), lk (dl kv k) e = if e = k then none else lk kv e
  | [] => by simp [dl, lk]
  | p :: r => by
    have ih := lk_dl k e r
    unfold dl at ih ⊢
    rw [List.filter_cons]
    by_cases h1 : p.1 = k
    · rw [if_neg (by simp [h1]), ih]
      by_cases h2 : e = k
      · rw [if_pos h2, if_pos h2]
      · rw [if_neg h2, if_neg h2]
        rw [lk_c, if_neg (by omega)]
    · rw [if_pos (by simp [h1])]
      show (if p.1 = e then some p.2 else lk (r.filter _) e) = _
      rw [ih]
      by_cases h2 : e = k
      · rw [if_pos h2, if_pos h2, if_neg (by omega)]
      · rw [if_neg h2, if_neg h2]
        rfl
/-- kv holds f: keys once, within lo .. hi - 1, numbers not above B -/
structure Tb (kv : List (Int × Int)) (f : Int → Int) (lo hi : Int) (B : Nat) : Prop where
  nd : (ks kv).Nodup
  at_ : ∀ e, (lk kv e).getD 0 = f e
  bd : ∀ p ∈ kv, lo ≤ p.1 ∧ p.1 < hi ∧ p.2.natAbs ≤ B
theorem len_sub : ∀ {l m : List Int}, l.Nodup → (∀ a ∈ l, a ∈ m) → l.length ≤ m.length
  | [], m, _, _ => Nat.zero_le _
  | a :: r, m, h, s => by
    have h := List.nodup_cons.mp h
    have ih := len_sub (m := m.erase a) h.2 fun b hb => (List.mem_erase_of_ne fun e => h.1 (by rw [← e]; exact hb)).mpr (s b (List.mem_cons_of_mem _ hb))
    have ha := s a List.mem_cons_self
    rw [List.length_erase_of_mem ha] at ih
    have := List.length_pos_of_mem ha
    rw [List.length_cons]
    omega
theorem Tb.len {kv : List (Int × Int)} {f : Int → Int} {lo hi : Int} {B : Nat} (t : Tb kv f lo hi B) : kv.length ≤ (hi - lo).toNat := by
  have := len_sub (m := (List.range (hi - lo).toNat).map fun k => lo + (k : Nat)) t.nd fun a ha => by
    obtain ⟨p, hp, e⟩ := List.mem_map.mp ha
    have := t.bd p hp
    subst e
    exact List.mem_map.mpr ⟨(p.1 - lo).toNat, List.mem_range.mpr (by omega), by omega⟩
  simpa [ks] using this
theorem Tb.nil (lo hi : Int) (B : Nat) : Tb [] (fun _ => 0) lo hi B := ⟨List.nodup_nil, fun _ => rfl, fun _ h => by cases h⟩
theorem Tb.put {kv : List (Int × Int)} {f : Int → Int} {lo hi : Int} {B : Nat} (t : Tb kv f lo hi B) {k v : Int} (h : lo ≤ k ∧ k < hi ∧ v.natAbs ≤ B) : Tb (pt kv k v) (fun e => if e = k then v else f e) lo hi B :=
  ⟨nodup_pt t.nd k v, fun e => by
    rw [lk_pt]
    by_cases q : e = k
    · rw [if_pos q, if_pos q]; rfl
    · rw [if_neg q, if_neg q, t.at_], fun p hp => (mem_pt hp).elim (fun e => by rw [e]; exact h) (t.bd p)⟩
theorem Tb.del {kv : List (Int × Int)} {f : Int → Int} {lo hi : Int} {B : Nat} (t : Tb kv f lo hi B) (k : Int) : Tb (dl kv k) (fun e => if e = k then 0 else f e) lo hi B :=
  ⟨t.nd.sublist (ks_dl kv k), fun e => by
    rw [lk_dl]
    by_cases q : e = k
    · rw [if_pos q, if_pos q]; rfl
    · rw [if_neg q, if_neg q, t.at_], fun p hp => t.bd p (List.mem_filter.mp hp).1⟩
theorem Tb.congr {kv : List (Int × Int)} {f g : Int → Int} {lo hi : Int} {B : Nat} (t : Tb kv f lo hi B) (h : ∀ e, f e = g e) : Tb kv g lo hi B := by rwa [← funext h]
theorem Tb.wide {kv : List (Int × Int)} {f : Int → Int} {lo hi lo' hi' : Int} {B B' : Nat} (t : Tb kv f lo hi B) (h1 : lo' ≤ lo) (h2 : hi ≤ hi') (h3 : B ≤ B') : Tb kv f lo' hi' B' :=
  ⟨t.nd, t.at_, fun p hp => by have := t.bd p hp; exact ⟨by omega, by omega, by omega⟩⟩
theorem Tb.abs {kv : List (Int × Int)} {f : Int → Int} {lo hi : Int} {B : Nat} (t : Tb kv f lo hi B) (e : Int) : (f e).natAbs ≤ B := by
  rw [← t.at_]
  cases h : lk kv e with
  | none => exact Nat.zero_le _
  | some v => exact (t.bd _ (lk_mem h)).2.2
end G02

namespace G02
open PySem PySem.Spec PyProof.Rows L2 Vl
@[simp] theorem gSt_r (i : Nat) (fi : M D) (v : D) (ρ : Vl.Env) : gSt i fi v ρ = ((Env.at ρ i).bind fun _ => (fi ρ).bind fun p => (Env.at p.2 i).bind fun o => (gSet o p.1 v).bind fun d' => some (p.2.set i (some d')) : Option Vl.Env) := rfl
@[simp] theorem kOf_i (i : Int) : keyOf (.int i) = some (.inl i) := rfl
abbrev lpC : M Bool := fB (fOp [2] [] gEq (fOp [2] [] gIxA (fVar 2) (fVar 3)) (fC (.int 0)))
abbrev lpB : MS := sIf lpC (sDrop (fDpop 2 (fVar 3))) sNil
theorem drop_loop (A B : Option D) : ∀ (rest : List Int) (kv : List (Int × Int)) (f : Int → Int) (lo hi : Int) (M : Nat) (x : Option D) (tl : List (Option D)), Tb kv f lo hi M → rest.Nodup → (∀ k ∈ rest, k ∈ ks kv) →
    ∃ kv' y, forL (gNm 3) lpB (rest.map .int) ([A, B, some (DK true kv), x] ++ tl) = some (.nx ([A, B, some (DK true kv'), y] ++ tl)) ∧ Tb kv' f lo hi M ∧ ∀ p ∈ kv', p ∈ kv ∧ (p.1 ∈ rest → p.2 ≠ 0)
  | [], kv, f, lo, hi, M, x, tl, t, _, _ => ⟨kv, x, rfl, t, fun p hp => ⟨hp, fun h => (by cases h)⟩⟩
  | k :: r, kv, f, lo, hi, M, x, tl, t, nd, s => by
    have nd := List.nodup_cons.mp nd
    obtain ⟨v, hv⟩ := lk_ks (s k List.mem_cons_self)
    have e1 := DK_get (o := true) hv
    by_cases h0 : v = 0
    · subst h0
      have e2 := DK_pop hv
      have t2 : Tb (dl kv k) f lo hi M := (t.del k).congr fun e => by
        by_cases q : e = k
        · rw [if_pos q, q, ← t.at_, hv]; rfl
        · rw [if_neg q]
      obtain ⟨kv', y, h1, h2, h3⟩ := drop_loop A B r (dl kv k) f lo hi M (some (.int k)) tl t2 nd.2 fun j hj => by
        obtain ⟨w, hw⟩ := lk_ks (s j (List.mem_cons_of_mem _ hj))
        have hne : j ≠ k := fun e => nd.1 (by rw [← e]; exact hj)
        have : lk (dl kv k) j = some w := by rw [lk_dl, if_neg hne, hw]
        exact List.mem_map.mpr ⟨_, lk_mem this, rfl⟩
      refine ⟨kv', y, ?_, h2, fun p hp => ⟨(List.mem_filter.mp (h3 p hp).1).1, fun q => (h3 p hp).2 ((List.mem_cons.mp q).resolve_left fun e => by have := (List.mem_filter.mp (h3 p hp).1).2; simp [e] at this)⟩⟩
      rw [List.map_cons]
      unfold forL
      have e3 : DK true kv = .dct true false (en kv) := rfl
      rw [e3] at e1 e2 ⊢
      simp [e1, e2]
      exact h1
    · obtain ⟨kv', y, h1, h2, h3⟩ := drop_loop A B r kv f lo hi M (some (.int k)) tl t nd.2 fun j hj => s j (List.mem_cons_of_mem _ hj)
      refine ⟨kv', y, ?_, h2, fun p hp => ⟨(h3 p hp).1, fun q => (List.mem_cons.mp q).elim (fun e z => h0 (by
        have := lk_of t.nd (show (p.1, p.2) ∈ kv from (h3 p hp).1)
        rw [e, hv] at this
        exact (Option.some.inj this).trans z)) (h3 p hp).2⟩⟩
      rw [List.map_cons]
      unfold forL
      simp [e1, h0]
      exact h1
abbrev ppB : MS := sAsg (gSt 2 (fVar 3)) (fOp [] [] gAdd (fGet2 [2] [] [] (fVar 2) (fVar 3) (fC (.int 0))) (fOp [1] [] gIxA (fVar 1) (fVar 3)))
theorem plus_loop (A : Option D) (kv2 : List (Int × Int)) (f2 : Int → Int) (lo hi : Int) (M2 : Nat) (t2 : Tb kv2 f2 lo hi M2) (hs : (hi - lo).toNat ≤ 100000) : ∀ (rest : List Int) (kv : List (Int × Int)) (f : Int → Int) (M : Nat) (x : Option D), Tb kv f lo hi M → (∀ k ∈ rest, (f k).natAbs + M2 ≤ M) → rest.Nodup → (∀ k ∈ rest, k ∈ ks kv2) →
    ∃ kv' y, forL (gNm 3) ppB (rest.map .int) [A, some (DK false kv2), some (DK true kv), x] = some (.nx [A, some (DK false kv2), some (DK true kv'), y]) ∧ Tb kv' (fun e => f e + if e ∈ rest then f2 e else 0) lo hi M
  | [], kv, f, M, x, t, _, _, _ => ⟨kv, x, rfl, t.congr fun e => by simp⟩
  | k :: r, kv, f, M, x, t, hM, nd, s => by
    have nd := List.nodup_cons.mp nd
    obtain ⟨v, hv⟩ := lk_ks (s k List.mem_cons_self)
    have e1 := DK_get (o := false) hv
    have e2 := DK_get2 true kv k 0
    have fv : f2 k = v := by rw [← t2.at_, hv]; rfl
    have e3 := DK_set (kv := kv) k ((lk kv k).getD 0 + v) (Nat.le_trans t.len hs)
    have b := t2.bd _ (lk_mem hv)
    have hm := hM k List.mem_cons_self
    rw [← t.at_] at hm
    have t3 := t.put (k := k) (v := (lk kv k).getD 0 + v) ⟨b.1, b.2.1, by have := b.2.2; omega⟩
    obtain ⟨kv', y, h1, h2⟩ := plus_loop A kv2 f2 lo hi M2 t2 hs r _ _ M (some (.int k)) t3 (fun j hj => by
      have hne : j ≠ k := fun e => nd.1 (by rw [← e]; exact hj)
      show (if j = k then _ else f j).natAbs + M2 ≤ M
      rw [if_neg hne]
      exact hM j (List.mem_cons_of_mem _ hj)) nd.2 fun j hj => s j (List.mem_cons_of_mem _ hj)
    refine ⟨kv', y, ?_, h2.congr fun e => ?_⟩
    · rw [List.map_cons]
      unfold forL
      simp [e1, e2, e3]
      exact h1
    · show (if e = k then _ else f e) + _ = _
      by_cases q : e = k
      · subst q
        rw [if_pos rfl, if_neg nd.1, if_pos List.mem_cons_self, t.at_, fv]
        omega
      · rw [if_neg q]
        by_cases q2 : e ∈ r
        · rw [if_pos q2, if_pos (List.mem_cons_of_mem _ q2)]
        · rw [if_neg q2, if_neg fun h => q2 ((List.mem_cons.mp h).resolve_left q)]
@[simp] theorem itemsOf_ks (kv : List (Int × Int)) : itemsOf (.lst true ((ks kv).map .int)) = some ((ks kv).map .int) := by simp [itemsOf]
theorem listA_DK (o : Bool) (kv : List (Int × Int)) : gListA [DK o kv] = some (.lst true ((ks kv).map .int)) := by
  show some (D.lst true ((en kv).map (·.1))) = _
  rw [en_ks]
theorem dict_DK (o : Bool) (kv : List (Int × Int)) : gDict [DK o kv] = some (DK true kv) := by
  show (if D.noOwnP (en kv) = true then some (D.dct true false (en kv)) else none) = _
  rw [if_pos (en_no kv)]
  rfl
theorem keys_DK (o : Bool) (kv : List (Int × Int)) (ρ : Vl.Env) (i : Nat) (h : Env.at ρ i = some (DK false kv)) : iKy i ρ = some ((ks kv).map .int, ρ) := by
  unfold iKy
  rw [h, Option.bind_some]
  show some ((en kv).map (·.1), ρ) = _
  rw [en_ks]
theorem fz_DK (o : Bool) (kv : List (Int × Int)) (ρ : Vl.Env) (i : Nat) (h : Env.at ρ i = some (DK o kv)) : fzSlot i ρ = some (ρ.set i (some (DK false kv))) := by
  unfold fzSlot
  rw [h, Option.bind_some]
  show some (ρ.set i (some (DK o kv).frz)) = _
  rw [DK_frz]
theorem lplus_ok {o o' : Bool} {kv kv2 : List (Int × Int)} {f f2 : Int → Int} {lo hi : Int} {M M2 : Nat} (t : Tb kv f lo hi M) (t2 : Tb kv2 f2 lo hi M2) (hs : (hi - lo).toNat ≤ 100000) : ∃ r, F__law_plus [DK o kv, DK o' kv2] = some (DK true r, []) ∧ Tb r (fun e => f e + f2 e) lo hi (M + M2) ∧ ∀ p ∈ r, p.2 ≠ 0 := by
  obtain ⟨kv3, y, h1, t3⟩ := plus_loop (some (DK o kv)) kv2 f2 lo hi M2 t2 hs (ks kv2) kv f (M + M2) none (t.wide (Int.le_refl _) (Int.le_refl _) (by omega)) (fun k _ => by have := t.abs k; omega) t2.nd fun k h => h
  obtain ⟨kv4, y2, h2, t4, z4⟩ := drop_loop (some (DK o kv)) (some (DK false kv2)) (ks kv3) kv3 _ lo hi (M + M2) y [] t3 t3.nd fun k h => h
  refine ⟨kv4, ?_, t4.congr fun e => ?_, fun p hp => (z4 p hp).2 (List.mem_map.mpr ⟨p, (z4 p hp).1, rfl⟩)⟩
  · have q1 := dict_DK o kv
    have q2 : fzSlot 1 [some (DK o kv), some (DK o' kv2), some (DK true kv), none] = some [some (DK o kv), some (DK false kv2), some (DK true kv), none] := fz_DK o' kv2 _ 1 rfl
    have q3 := keys_DK false kv2 [some (DK o kv), some (DK false kv2), some (DK true kv), none] 1 rfl
    have q4 := listA_DK true kv3
    simp only [List.append_nil, List.cons_append, List.nil_append] at h2
    unfold F__law_plus runF
    simp [-iKy_r, outs, q1, q2, q3, h1, q4, h2]
  · by_cases q : e ∈ ks kv2
    · rw [if_pos q]
    · rw [if_neg q, ← t2.at_, lk_none q]; rfl
end G02

namespace G02
open PySem PySem.Spec PyProof.Rows L2 Vl
def sm : List (Int × Int) → (Int → Int) → Int → Int
  | [], _, _ => 0
  | p :: r, g, e => p.2 * g (e - p.1) + sm r g e
theorem sm_dl (g : Int → Int) (e l : Int) : ∀ kv : List (Int × Int), (ks kv).Nodup → sm kv g e = (lk kv l).getD 0 * g (e - l) + sm (dl kv l) g e
  | [], _ => by simp [sm, lk, dl]
  | p :: r, n => by
    have n := List.nodup_cons.mp n
    have ih := sm_dl g e l r n.2
    rw [lk_c]
    by_cases h : p.1 = l
    · have h2 : dl (p :: r) l = r := by
        unfold dl
        rw [List.filter_cons, if_neg (by simp [h])]
        refine List.filter_eq_self.mpr fun q hq => ?_
        have : q.1 ≠ l := fun e => n.1 (by show p.1 ∈ _; rw [h, ← e]; exact List.mem_map.mpr ⟨q, hq, rfl⟩)
        simp [this]
      rw [if_pos h, h2, ← h]
      rfl
    · have h2 : dl (p :: r) l = p :: dl r l := by
        unfold dl
        rw [List.filter_cons, if_pos (by simp [h])]
      rw [if_neg h, h2]
      show p.2 * g (e - p.1) + sm r g e = _ + (p.2 * g (e - p.1) + sm (dl r l) g e)
      rw [ih]
      omega
theorem sm_zero (g : Int → Int) (e : Int) : ∀ kv : List (Int × Int), (∀ p ∈ kv, p.2 = 0) → sm kv g e = 0
  | [], _ => rfl
  | p :: r, h => by
    show p.2 * g (e - p.1) + sm r g e = 0
    rw [sm_zero g e r fun q hq => h q (List.mem_cons_of_mem _ hq), h p List.mem_cons_self]
    simp
theorem sm_cv (g : Int → Int) (e : Int) : ∀ (ns : List Int) (l : Int) (kv : List (Int × Int)), (ks kv).Nodup → (∀ x, (lk kv x).getD 0 = coef l ns x) → sm kv g e = cv l ns g e
  | [], l, kv, n, h => by
    rw [sm_zero g e kv fun p hp => ?_]
    · rfl
    · have := h p.1
      rw [lk_of n (show (p.1, p.2) ∈ kv from hp), coef_out (by simp; omega)] at this
      exact this
  | m :: r, l, kv, n, h => by
    rw [sm_dl g e l kv n, h l]
    have h2 := sm_cv g e r (l + 1) (dl kv l) (n.sublist (ks_dl kv l)) fun x => by
      rw [lk_dl]
      by_cases q : x = l
      · rw [if_pos q, q, coef_out (.inl (by omega))]; rfl
      · rw [if_neg q, h, coef_cons, if_neg q, Int.zero_add]
    rw [h2, coef_cons, if_pos rfl, coef_out (l := l + 1) (.inl (by omega)), Int.add_zero]
    rfl
abbrev tiB : MS := sAsg (gSt 2 (fOp [3] [] gAdd (fVar 3) (fVar 4))) (fOp [] [] gAdd (fGet2 [2] [] [] (fVar 2) (fOp [3] [] gAdd (fVar 3) (fVar 4)) (fC (.int 0))) (fOp [0] [] gMul (fOp [0] [] gIxA (fVar 0) (fVar 3)) (fOp [1] [] gIxA (fVar 1) (fVar 4))))
theorem lt_in (kv1 kv2 : List (Int × Int)) (f2 : Int → Int) (lo2 hi2 lo hi k1 v1 : Int) (M2 Mm : Nat) (hv1 : lk kv1 k1 = some v1) (t2 : Tb kv2 f2 lo2 hi2 M2) (hs : (hi - lo).toNat ≤ 100000) (hr : lo ≤ k1 + lo2 ∧ k1 + hi2 ≤ hi) (hm : v1.natAbs * M2 ≤ Mm) (hmul : ∀ v, v.natAbs ≤ M2 → gMul (.int v1) (.int v) = some (.int (v1 * v))) :
    ∀ (rest : List Int) (kv : List (Int × Int)) (f : Int → Int) (M : Nat) (x : Option D), Tb kv f lo hi M → (∀ k ∈ rest, (f (k1 + k)).natAbs + Mm ≤ M) → rest.Nodup → (∀ k ∈ rest, k ∈ ks kv2) →
    ∃ kv' y, forL (gNm 4) tiB (rest.map .int) [some (DK false kv1), some (DK false kv2), some (DK true kv), some (.int k1), x] = some (.nx [some (DK false kv1), some (DK false kv2), some (DK true kv'), some (.int k1), y]) ∧ Tb kv' (fun e => f e + if e - k1 ∈ rest then v1 * f2 (e - k1) else 0) lo hi M
  | [], kv, f, M, x, t, _, _, _ => ⟨kv, x, rfl, t.congr fun e => by simp⟩
  | k :: r, kv, f, M, x, t, hM, nd, s => by
    have nd := List.nodup_cons.mp nd
    obtain ⟨v, hv⟩ := lk_ks (s k List.mem_cons_self)
    have e1 := DK_get (o := false) hv
    have e0 := DK_get (o := false) hv1
    have e2 := DK_get2 true kv (k1 + k) 0
    have fv : f2 k = v := by rw [← t2.at_, hv]; rfl
    have e3 := DK_set (kv := kv) (k1 + k) ((lk kv (k1 + k)).getD 0 + v1 * v) (Nat.le_trans t.len hs)
    have b := t2.bd _ (lk_mem hv)
    have e4 := hmul v b.2.2
    have hm1 := hM k List.mem_cons_self
    rw [← t.at_] at hm1
    have hm2 : (v1 * v).natAbs ≤ Mm := by rw [Int.natAbs_mul]; exact Nat.le_trans (Nat.mul_le_mul_left _ b.2.2) hm
    have b1 := b.1
    have b2 := b.2.1
    have t3 := t.put (k := k1 + k) (v := (lk kv (k1 + k)).getD 0 + v1 * v) ⟨by omega, by omega, by omega⟩
    obtain ⟨kv', y, h1, h2⟩ := lt_in kv1 kv2 f2 lo2 hi2 lo hi k1 v1 M2 Mm hv1 t2 hs hr hm hmul r _ _ M (some (.int k)) t3 (fun j hj => by
      have hne : j ≠ k := fun e => nd.1 (by rw [← e]; exact hj)
      show (if k1 + j = k1 + k then _ else f (k1 + j)).natAbs + Mm ≤ M
      rw [if_neg (by omega)]
      exact hM j (List.mem_cons_of_mem _ hj)) nd.2 fun j hj => s j (List.mem_cons_of_mem _ hj)
    refine ⟨kv', y, ?_, h2.congr fun e => ?_⟩
    · rw [List.map_cons]
      unfold forL
      simp [e0, e1, e2, e3, e4]
      exact h1
    · show (if e = k1 + k then _ else f e) + _ = _
      by_cases q : e = k1 + k
      · subst q
        have q1 : k1 + k - k1 = k := by omega
        rw [if_pos rfl, q1, if_neg nd.1, if_pos List.mem_cons_self, t.at_, fv]
        omega
      · rw [if_neg q]
        have q3 : e - k1 ≠ k := by omega
        by_cases q2 : e - k1 ∈ r
        · rw [if_pos q2, if_pos (List.mem_cons_of_mem _ q2)]
        · rw [if_neg q2, if_neg fun h => q2 ((List.mem_cons.mp h).resolve_left q3)]
abbrev toB : MS := sDk 1 (sFor (iKy 1) (gNm 4) tiB)
theorem lt_out (kv1 kv2 : List (Int × Int)) (f1 f2 : Int → Int) (lo1 hi1 lo2 hi2 : Int) (M1 M2 : Nat) (t1 : Tb kv1 f1 lo1 hi1 M1) (t2 : Tb kv2 f2 lo2 hi2 M2) (hs : (hi1 + hi2 - (lo1 + lo2)).toNat ≤ 100000) (hmul : ∀ u v : Int, u.natAbs ≤ M1 → v.natAbs ≤ M2 → gMul (.int u) (.int v) = some (.int (u * v))) :
    ∀ (rest kv : List (Int × Int)) (f : Int → Int) (n : Nat) (x3 x4 : Option D), Tb kv f (lo1 + lo2) (hi1 + hi2) (n * (M1 * M2)) → (∀ p ∈ rest, p ∈ kv1) →
    ∃ kv' y3 y4, forL (gNm 3) toB ((ks rest).map .int) [some (DK false kv1), some (DK false kv2), some (DK true kv), x3, x4] = some (.nx [some (DK false kv1), some (DK false kv2), some (DK true kv'), y3, y4]) ∧ Tb kv' (fun e => f e + sm rest f2 e) (lo1 + lo2) (hi1 + hi2) ((n + rest.length) * (M1 * M2))
  | [], kv, f, n, x3, x4, t, _ => ⟨kv, x3, x4, rfl, t.congr fun e => by simp [sm]⟩
  | p :: r, kv, f, n, x3, x4, t, s => by
    have hp := s p List.mem_cons_self
    have b := t1.bd p hp
    have hv1 := lk_of t1.nd (show (p.1, p.2) ∈ kv1 from hp)
    have e0 : (n + 1) * (M1 * M2) = n * (M1 * M2) + M1 * M2 := Nat.succ_mul _ _
    obtain ⟨kv3, y, h1, t3⟩ := lt_in kv1 kv2 f2 lo2 hi2 (lo1 + lo2) (hi1 + hi2) p.1 p.2 M2 (M1 * M2) hv1 t2 hs (by omega) (Nat.mul_le_mul_right _ b.2.2) (fun v hv => hmul p.2 v b.2.2 hv) (ks kv2) kv f ((n + 1) * (M1 * M2)) x4 (t.wide (Int.le_refl _) (Int.le_refl _) (by omega)) (fun k _ => by have := t.abs (p.1 + k); omega) t2.nd fun k h => h
    obtain ⟨kv4, y3, y4, h2, t4⟩ := lt_out kv1 kv2 f1 f2 lo1 hi1 lo2 hi2 M1 M2 t1 t2 hs hmul r kv3 _ (n + 1) (some (.int p.1)) y t3 fun q hq => s q (List.mem_cons_of_mem _ hq)
    refine ⟨kv4, y3, y4, ?_, ?_⟩
    · have q2 : fzSlot 1 [some (DK false kv1), some (DK false kv2), some (DK true kv), some (.int p.1), x4] = some [some (DK false kv1), some (DK false kv2), some (DK true kv), some (.int p.1), x4] := fz_DK false kv2 _ 1 rfl
      have q3 := keys_DK false kv2 [some (DK false kv1), some (DK false kv2), some (DK true kv), some (.int p.1), x4] 1 rfl
      show forL (gNm 3) toB (.int p.1 :: (ks r).map .int) _ = _
      unfold forL
      simp [-iKy_r, -fOp_r, -fGet2_r, -sAsg_r, q2, q3, h1]
      exact h2
    · have e2 : n + (p :: r).length = n + 1 + r.length := by rw [List.length_cons]; omega
      rw [e2]
      refine t4.congr fun e => ?_
      show f e + _ + sm r f2 e = f e + (p.2 * f2 (e - p.1) + sm r f2 e)
      by_cases q : e - p.1 ∈ ks kv2
      · rw [if_pos q]; omega
      · have : f2 (e - p.1) = 0 := by rw [← t2.at_, lk_none q]; rfl
        rw [if_neg q, this]; simp
theorem ltimes_ok {kv kv2 : List (Int × Int)} {f f2 : Int → Int} {lo hi lo2 hi2 : Int} {M M2 : Nat} (t : Tb kv f lo hi M) (t2 : Tb kv2 f2 lo2 hi2 M2) (b1 : -10000 ≤ lo) (b2 : hi ≤ 10000) (b3 : -10000 ≤ lo2) (b4 : hi2 ≤ 10000) (hM : M < 2 ^ 400000) (hM2 : M2 < 2 ^ 400000) :
    ∃ r, F__law_times [DK false kv, DK false kv2] = some (DK true r, []) ∧ Tb r (sm kv f2) (lo + lo2) (hi + hi2) (20000 * (M * M2)) ∧ ∀ p ∈ r, p.2 ≠ 0 := by
  have hmul : ∀ u v : Int, u.natAbs ≤ M → v.natAbs ≤ M2 → gMul (.int u) (.int v) = some (.int (u * v)) := fun u v hu hv => gMul_i (by
    unfold cMul bitsOk
    rw [decide_eq_true (show u.natAbs < 2 ^ 400000 from Nat.lt_of_le_of_lt hu hM), decide_eq_true (show v.natAbs < 2 ^ 400000 from Nat.lt_of_le_of_lt hv hM2)]
    simp)
  obtain ⟨kv3, y3, y4, h1, t3⟩ := lt_out kv kv2 f f2 lo hi lo2 hi2 M M2 t t2 (by omega) hmul kv [] (fun _ => 0) 0 none none (by rw [Nat.zero_mul]; exact Tb.nil _ _ _) fun p hp => hp
  have hl := t.len
  obtain ⟨kv4, y2, h2, t4, z4⟩ := drop_loop (some (DK false kv)) (some (DK false kv2)) (ks kv3) kv3 _ _ _ _ y3 [y4] t3 t3.nd fun k h => h
  refine ⟨kv4, ?_, (t4.congr fun e => by show 0 + _ = _; omega).wide (Int.le_refl _) (Int.le_refl _) (Nat.mul_le_mul_right _ (by omega)), fun p hp => (z4 p hp).2 (List.mem_map.mpr ⟨p, (z4 p hp).1, rfl⟩)⟩
  have e0 : (.dct true false [] : D) = DK true [] := rfl
  have q1 : fzSlot 0 [some (DK false kv), some (DK false kv2), some (DK true []), none, none] = some [some (DK false kv), some (DK false kv2), some (DK true []), none, none] := fz_DK false kv _ 0 rfl
  have q3 := keys_DK false kv [some (DK false kv), some (DK false kv2), some (DK true []), none, none] 0 rfl
  have q4 := listA_DK true kv3
  simp only [List.append_nil, List.cons_append, List.nil_append] at h2
  unfold F__law_times runF
  simp [-iKy_r, outs, e0, q1, q3, h1, q4, h2]
end G02

namespace G02
open PySem PySem.Spec PyProof.Rows L2 Vl
theorem cMul_s (a c : Int) (hc : c.natAbs ≤ 1000) : cMul a c = true := by
  unfold cMul
  simp
  omega
theorem put_loop (i : Nat) (body : MS) (E : List (Int × Int) → Option D → Vl.Env) (s w : Int → Int) (lo hi : Int) (M : Nat) (hs : (hi - lo).toNat ≤ 100000) :
    ∀ (rest : List Int) (kv : List (Int × Int)) (f : Int → Int) (x : Option D), Tb kv f lo hi M →
    (∀ k ∈ rest, ∀ kv x, kv.length ≤ 100000 → ((gNm i (.int k) (E kv x)).bind body) = some (.nx (E (pt kv (s k) (w k)) (some (.int k))))) → (∀ k ∈ rest, lo ≤ s k ∧ s k < hi ∧ (w k).natAbs ≤ M) →
    ∃ kv' y g, forL (gNm i) body (rest.map .int) (E kv x) = some (.nx (E kv' y)) ∧ Tb kv' g lo hi M ∧ ∀ e, ((∀ k ∈ rest, s k ≠ e) ∧ g e = f e) ∨ ∃ k ∈ rest, s k = e ∧ g e = w k
  | [], kv, f, x, t, _, _ => ⟨kv, x, f, rfl, t, fun e => .inl ⟨fun _ h => (by cases h), rfl⟩⟩
  | k :: r, kv, f, x, t, hb, hr => by
    obtain ⟨kv', y, g, h1, h2, h3⟩ := put_loop i body E s w lo hi M hs r (pt kv (s k) (w k)) _ (some (.int k)) (t.put (hr k List.mem_cons_self)) (fun j hj => hb j (List.mem_cons_of_mem _ hj)) fun j hj => hr j (List.mem_cons_of_mem _ hj)
    refine ⟨kv', y, g, ?_, h2, fun e => ?_⟩
    · have e1 := hb k List.mem_cons_self kv x (Nat.le_trans t.len hs)
      rw [List.map_cons]
      unfold forL
      obtain ⟨ρ, q1, q2⟩ := Option.bind_eq_some_iff.mp e1
      rw [q1, Option.bind_some, q2, Option.bind_some]
      exact h1
    · rcases h3 e with ⟨a, b⟩ | ⟨j, hj, a, b⟩
      · by_cases q : s k = e
        · exact .inr ⟨k, List.mem_cons_self, q, by rw [b, if_pos q.symm]⟩
        · exact .inl ⟨fun j hj => (List.mem_cons.mp hj).elim (fun z => by rw [z]; exact q) (a j), by rw [b, if_neg (Ne.symm q)]⟩
      · exact .inr ⟨j, List.mem_cons_of_mem _ hj, a, b⟩
theorem lk_f {kv : List (Int × Int)} {f : Int → Int} {lo hi : Int} {M : Nat} (t : Tb kv f lo hi M) {k : Int} (h : k ∈ ks kv) : lk kv k = some (f k) := by
  obtain ⟨v, hv⟩ := lk_ks h
  rw [← t.at_, hv]
  rfl
theorem ks_bd {kv : List (Int × Int)} {f : Int → Int} {lo hi : Int} {M : Nat} (t : Tb kv f lo hi M) {k : Int} (h : k ∈ ks kv) : lo ≤ k ∧ k < hi := by
  obtain ⟨p, hp, e⟩ := List.mem_map.mp h
  have := t.bd p hp
  have e : p.1 = k := e
  rw [← e]
  exact ⟨this.1, this.2.1⟩
theorem f_out {kv : List (Int × Int)} {f : Int → Int} {lo hi : Int} {M : Nat} (t : Tb kv f lo hi M) {k : Int} (h : k ∉ ks kv) : f k = 0 := by
  rw [← t.at_, lk_none h]
  rfl
abbrev teB : MS := sIf (fB (fOp [0] [] gNe (fOp [0] [] gIxA (fOp [0] [] gIxA (fVar 0) (fC (.int 1))) (fVar 2)) (fC (.int 0)))) (sAsg (gSt 1 (fOp [0] [] gAdd (fOp [0] [] gIxA (fVar 0) (fC (.int 0))) (fVar 2))) (fOp [0] [] gIxA (fOp [0] [] gIxA (fVar 0) (fC (.int 1))) (fVar 2))) sNil
theorem terms_loop (l : Int) (ns : List Int) (M : Nat) (hM : ∀ n ∈ ns, n.natAbs ≤ M) (hn : ns.length ≤ 100000) : ∀ (m j : Nat) (kv : List (Int × Int)) (f : Int → Int) (x : Option D), j + m ≤ ns.length → Tb kv f l (l + (ns.length : Nat)) M → (∀ e, f e = 0 ∨ f e = coef l ns e) → (∀ p ∈ kv, p.2 ≠ 0) →
    ∃ kv' y g, forL (gNm 2) teB ((List.range' j m).map fun k => .int (k : Nat)) [some (P l ns), some (DK true kv), x] = some (.nx [some (P l ns), some (DK true kv'), y]) ∧ Tb kv' g l (l + (ns.length : Nat)) M ∧ (∀ e, g e = 0 ∨ g e = coef l ns e) ∧ (∀ e, f e = coef l ns e → g e = coef l ns e) ∧ (∀ k : Nat, j ≤ k → k < j + m → g (l + (k : Nat)) = coef l ns (l + (k : Nat))) ∧ ∀ p ∈ kv', p.2 ≠ 0
  | 0, j, kv, f, x, _, t, h, hz => ⟨kv, x, f, rfl, t, h, fun _ h => h, fun k _ _ => by omega, hz⟩
  | m + 1, j, kv, f, x, hj, t, h, hz => by
    have hjl : j < ns.length := by omega
    have ea : L2.atI (ns.map D.int) (j : Int) = some (.int ns[j]) := atI_i (List.getElem?_eq_getElem hjl)
    have ec : coef l ns (l + (j : Nat)) = ns[j] := coef_at hjl
    by_cases h0 : ns[j] = 0
    · obtain ⟨kv', y, g, h1, h2, h3, h4, h5, h6⟩ := terms_loop l ns M hM hn m (j + 1) kv f (some (.int (j : Nat))) (by omega) t h hz
      refine ⟨kv', y, g, ?_, h2, h3, h4, fun k a b => ?_, h6⟩
      · rw [List.range'_succ, List.map_cons]
        unfold forL
        simp [ea, h0]
        exact h1
      · by_cases q : k = j
        · subst q
          exact h4 _ ((h _).elim (fun z => by rw [z, ec, h0]) id)
        · exact h5 k (by omega) (by omega)
    · obtain ⟨kv', y, g, h1, h2, h3, h4, h5, h6⟩ := terms_loop l ns M hM hn m (j + 1) (pt kv (l + (j : Nat)) ns[j]) _ (some (.int (j : Nat))) (by omega) (t.put ⟨by omega, by omega, hM _ (List.getElem_mem hjl)⟩) (fun e => by
        by_cases q : e = l + (j : Nat)
        · right; rw [if_pos q, q, ec]
        · rw [if_neg q]; exact h e) (fun p hp => (mem_pt hp).elim (fun e => by rw [e]; exact h0) (hz p))
      refine ⟨kv', y, g, ?_, h2, h3, fun e he => h4 e ?_, fun k a b => ?_, h6⟩
      · have e3 := DK_set (kv := kv) (l + (j : Nat)) ns[j] (by have := t.len; omega)
        rw [List.range'_succ, List.map_cons]
        unfold forL
        simp [ea, h0, e3]
        exact h1
      · show (if e = l + (j : Nat) then ns[j] else f e) = _
        by_cases q : e = l + (j : Nat)
        · rw [if_pos q, q, ec]
        · rw [if_neg q, he]
      · by_cases q : k = j
        · subst q
          exact h4 _ (by show (if _ then _ else _) = _; rw [if_pos rfl, ec])
        · exact h5 k (by omega) (by omega)
theorem lterms_ok {d : D} {f : Int → Int} {lo hi : Int} {B : Nat} (h : IsP d f lo hi B) (b1 : -10000 ≤ lo) (b2 : hi ≤ 10000) (b3 : lo ≤ hi) : ∃ r, F__law_terms [d] = some (DK true r, []) ∧ Tb r f lo hi B ∧ ∀ p ∈ r, p.2 ≠ 0 := by
  obtain ⟨l, ns, rfl, n1, c1, s1, z1⟩ := h
  have hlen : ns.length ≤ 20000 := by
    rcases s1 with ⟨s, _⟩ | s
    · rw [s]; simp
    · omega
  obtain ⟨kv', y, g, h1, h2, h3, h4, h5, h6⟩ := terms_loop l ns B z1 (by omega) ns.length 0 [] _ none (by omega) (Tb.nil _ _ _) (fun e => .inl rfl) fun _ h => by cases h
  have hg : ∀ e, g e = f e := fun e => by
    rw [← c1]
    by_cases ho : e < l ∨ l + (ns.length : Nat) ≤ e
    · rw [coef_out ho]
      rcases h3 e with q | q
      · exact q
      · rw [q, coef_out ho]
    · have := h5 (e - l).toNat (Nat.zero_le _) (by omega)
      rwa [show l + (((e - l).toNat : Nat) : Int) = e by omega] at this
  refine ⟨kv', ?_, ?_, h6⟩
  · have e0 : (.dct true false [] : D) = DK true [] := rfl
    have er : rgItems 0 ns.length = (List.range' 0 ns.length).map fun k => D.int (k : Nat) := by
      unfold rgItems
      rw [List.range_eq_range']
      exact List.map_congr_left fun k _ => by rw [Int.zero_add]
    have ek : okR ((ns.length : Nat) : Int) = true := by simp [okR]; omega
    unfold F__law_terms runF
    simp [-sIf_r, -List.map_map, outs, e0, er, h1, ek]
  · rcases s1 with ⟨s, s'⟩ | s
    · subst s
      refine ⟨h2.nd, fun e => by rw [h2.at_, hg], fun p hp => ?_⟩
      have := h2.bd p hp
      simp at this
      omega
    · exact (h2.congr hg).wide s.1 s.2 (Nat.le_refl _)
end G02

namespace G02
open PySem PySem.Spec PyProof.Rows L2 Vl
theorem ints_map : ∀ ns : List Int, ints? (ns.map D.int) = some ns
  | [] => rfl
  | n :: r => by
    show (ints? (r.map D.int)).bind (fun l => some (n :: l)) = _
    rw [ints_map r]
    rfl
theorem sortedI_l (ns : List Int) : gSortedI [.lst true (ns.map .int)] = some (.lst true ((srtI ns).map .int)) := by
  show (ints? (ns.map D.int)).bind _ = _
  rw [ints_map]
  rfl
theorem tab_succ (f : Int → Int) (lo : Int) (n : Nat) : tab f lo (n + 1) = tab f lo n ++ [f (lo + (n : Nat))] := by
  unfold tab
  rw [List.range_succ, List.map_append]
  rfl
theorem tab_head (f : Int → Int) (lo : Int) (n : Nat) : ∃ r, tab f lo (n + 1) = f lo :: r := by
  unfold tab
  rw [List.range_succ_eq_map, List.map_cons]
  exact ⟨_, by rw [show lo + ((0 : Nat) : Int) = lo by omega]⟩
theorem lpoly_ok {kv : List (Int × Int)} {f : Int → Int} {lo hi : Int} {M : Nat} (t : Tb kv f lo hi M) (b1 : -20000 ≤ lo) (b2 : hi ≤ 20000) : ∃ r, F__law_poly [DK false kv] = some (r, []) ∧ IsP r f lo hi M := by
  let p : D → Bool := fun d => match d with | .int i => !decide (f i = 0) | _ => false
  obtain ⟨K, hK⟩ : ∃ K, K = (ks kv).filter fun i => !decide (f i = 0) := ⟨_, rfl⟩
  have hl : kv.length ≤ 40000 := by have := t.len; omega
  have q1 : fzSlot 0 [some (DK false kv), none, none, none] = some [some (DK false kv), none, none, none] := fz_DK false kv _ 0 rfl
  have q3 := keys_DK false kv [some (DK false kv), none, none, none] 0 rfl
  have hc : fComp [2] (iKy 0) (gNm 2) (fB (fOp [0] [] gNe (fOp [0] [] gIxA (fVar 0) (fVar 2)) (fC (.int 0)))) (fVal 2) [some (DK false kv), none, none, none] = some (.lst true (K.map .int), [some (DK false kv), none, none, none]) := by
    have := fComp_pure (i := 2) (fi := iKy 0) (ft := fB (fOp [0] [] gNe (fOp [0] [] gIxA (fVar 0) (fVar 2)) (fC (.int 0)))) (fe := fVal 2) p id q3 (by simp [ownOk]) (fun d hd => by
      obtain ⟨k, hk, rfl⟩ := List.mem_map.mp hd
      have e1 := DK_get (o := false) (lk_f t hk)
      simp [e1, p]) (fun d hd _ => by
      obtain ⟨k, hk, rfl⟩ := List.mem_map.mp hd
      simp) (by simpa [ks] using (show kv.length ≤ 100000 by omega))
    rw [this, List.map_id, List.filter_map, hK]
    rfl
  have hS := sortedI_l K
  have mS : ∀ e, e ∈ srtI K ↔ f e ≠ 0 := fun e => by
    rw [(srtI_perm K).mem_iff, hK, List.mem_filter]
    constructor
    · rintro ⟨_, h⟩; simpa using h
    · intro h
      refine ⟨Classical.byContradiction fun q => h (f_out t q), by simpa using h⟩
  have pS := srtI_sorted K
  have lS : (srtI K).length ≤ kv.length := by
    rw [(srtI_perm K).length_eq, hK]
    have := List.length_filter_le (fun i => !decide (f i = 0)) (ks kv)
    simpa [ks] using this
  generalize srtI K = S at hS mS pS lS
  cases hSe : S with
  | nil =>
    subst hSe
    refine ⟨P 0 [], ?_, 0, [], rfl, .inl ⟨rfl, rfl⟩, fun e => ?_, .inl ⟨rfl, rfl⟩, fun _ h => (by cases h)⟩
    · unfold F__law_poly runF
      simp [-fComp_r, -iKy_r, outs, q1, hc, hS, szOk]
      rfl
    · rw [coef_out (by simp; omega)]
      exact (Classical.byContradiction fun q => by have := (mS e).mpr fun h => q h.symm; cases this)
  | cons a r =>
    obtain ⟨r', z, hz⟩ : ∃ r' z, S = r' ++ [z] := ⟨S.dropLast, S.getLast (by rw [hSe]; simp), (List.dropLast_concat_getLast _).symm⟩
    have ha : ∀ e ∈ S, a ≤ e := fun e he => by
      rw [hSe] at he pS
      rcases List.mem_cons.mp he with q | q
      · omega
      · exact (List.pairwise_cons.mp pS).1 e q
    have hb : ∀ e ∈ S, e ≤ z := fun e he => by
      rw [hz] at he pS
      rcases List.mem_append.mp he with q | q
      · exact (List.pairwise_append.mp pS).2.2 e q z (by simp)
      · rw [List.mem_singleton.mp q]; omega
    have am : a ∈ S := by rw [hSe]; simp
    have zm : z ∈ S := by rw [hz]; simp
    have az := ha z zm
    have fk : ∀ e ∈ S, lo ≤ e ∧ e < hi := fun e he => ks_bd t (Classical.byContradiction fun q => (mS e).mp he (f_out t q))
    have ka := fk a am
    have kz := fk z zm
    obtain ⟨n, hn⟩ : ∃ n : Nat, z = a + n := ⟨(z - a).toNat, by omega⟩
    have hg : ∀ e, e < a ∨ a + ((n + 1 : Nat) : Int) ≤ e → f e = 0 := fun e he => Classical.byContradiction fun q => by
      have h1 := (mS e).mpr q
      have := ha e h1
      have := hb e h1
      omega
    have hcf := coef_tab hg
    have h2 : L2.atI (S.map D.int) 0 = some (.int a) := atI_i (k := 0) (by rw [hSe]; rfl)
    have h3 : L2.atI (S.map D.int) ((S.length : Int) - 1) = some (.int z) := by
      have e : S[S.length - 1]? = some z := by rw [hz]; simp
      have := atI_i e
      have hp : 0 < S.length := List.length_pos_of_mem am
      rwa [show ((S.length - 1 : Nat) : Int) = (S.length : Int) - 1 by omega] at this
    have hp : S.length ≠ 0 := Nat.ne_of_gt (List.length_pos_of_mem am)
    have hSn : ¬ S = [] := fun e => hp (by rw [e]; rfl)
    refine ⟨P a (tab f a (n + 1)), ?_, a, _, rfl, .inr ⟨?_, tab f a n, f z, ?_, (mS z).mp zm⟩, hcf, .inr ⟨ka.1, by rw [tab_len]; omega⟩, fun x hx => ?_⟩
    · have hc2 : fComp [2] (iRg2 (fCons [3] [] (fVar 3) (fCons [] [] (fOp [1] [] gAdd (fOp [1] [] gIxA (fVar 1) (fOp [] [] gSub (fCl gLen (fCons [1] [] (fVar 1) fNil)) (fC (.int 1)))) (fC (.int 1))) fNil))) (gNm 2) fYes (fGet2 [0] [] [] (fVar 0) (fVar 2) (fC (.int 0))) [some (DK false kv), some (.lst true (S.map .int)), none, some (.int a)] = some (.lst true ((tab f a (n + 1)).map .int), [some (DK false kv), some (.lst true (S.map .int)), none, some (.int a)]) := by
        rw [← rg_map f a (n + 1) (fun d => match d with | .int i => .int (f i) | d => d) fun i => rfl]
        have k1 : okR a = true := by simp [okR]; omega
        have k2 : okR (z + 1) = true := by simp [okR]; omega
        have k3 : (z + 1 - a).toNat = n + 1 := by omega
        refine fComp_all _ (by simp [h3, k1, k2, k3]) (by simp [ownOk]) (fun d hd => ?_) (by rw [rgItems_length]; omega)
        unfold rgItems at hd
        obtain ⟨k, _, rfl⟩ := List.mem_map.mp hd
        have := DK_get2 false kv (a + (k : Nat)) 0
        simp [this, t.at_]
      unfold F__law_poly runF
      simp [-fComp_r, -iKy_r, outs, q1, hc, hS, szOk, h2, hc2, hp, hSn]
      rfl
    · obtain ⟨w, e⟩ := tab_head f a n
      exact ⟨f a, w, e, (mS a).mp am⟩
    · rw [tab_succ, hn]
    · obtain ⟨k, _, e⟩ := mem_tab hx
      rw [e]
      exact t.abs _
end G02

namespace G02
open PySem PySem.Spec PyProof.Rows L2 Vl
/-! ### products, whatever holds the first -/
def kvOf : Int → List Int → List (Int × Int)
  | _, [] => []
  | l, n :: r => (l, n) :: kvOf (l + 1) r
theorem kvOf_ge : ∀ (ns : List Int) (l : Int) (k : Int), k ∈ ks (kvOf l ns) → l ≤ k
  | [], _, _, h => by cases h
  | n :: r, l, k, h => by
    rcases List.mem_cons.mp (show k ∈ l :: ks (kvOf (l + 1) r) from h) with e | h
    · omega
    · have := kvOf_ge r (l + 1) k h; omega
theorem kvOf_nd : ∀ (ns : List Int) (l : Int), (ks (kvOf l ns)).Nodup
  | [], _ => List.nodup_nil
  | n :: r, l => List.nodup_cons.mpr ⟨fun h => by have := kvOf_ge r (l + 1) l h; omega, kvOf_nd r (l + 1)⟩
theorem kvOf_at : ∀ (ns : List Int) (l x : Int), (lk (kvOf l ns) x).getD 0 = coef l ns x
  | [], l, x => by rw [coef_out (by simp; omega)]; rfl
  | n :: r, l, x => by
    rw [coef_cons]
    show (if l = x then some n else lk (kvOf (l + 1) r) x).getD 0 = _
    by_cases h : x = l
    · rw [if_pos h.symm, if_pos h, coef_out (.inl (by omega))]; simp
    · rw [if_neg (Ne.symm h), if_neg h, kvOf_at r (l + 1) x, Int.zero_add]
theorem kvOf_sm (g : Int → Int) (e : Int) : ∀ (ns : List Int) (l : Int), sm (kvOf l ns) g e = cv l ns g e
  | [], _ => rfl
  | n :: r, l => by
    show n * g (e - l) + sm (kvOf (l + 1) r) g e = n * g (e - l) + cv (l + 1) r g e
    rw [kvOf_sm g e r (l + 1)]
def mul (g f : Int → Int) : Int → Int := cv (-1000) (tab g (-1000) 2000) f
theorem mul_cv {g f : Int → Int} {l : Int} {ns : List Int} (h : ∀ e, coef l ns e = g e) (hz : ∀ e, e < -1000 ∨ 1000 ≤ e → g e = 0) (e : Int) : cv l ns f e = mul g f e := by
  rw [← kvOf_sm]
  exact sm_cv f e _ _ _ (kvOf_nd ns l) fun x => by rw [kvOf_at, h, coef_tab fun e he => hz e (by omega)]
theorem mul_sm {g f : Int → Int} {kv : List (Int × Int)} {lo hi : Int} {M : Nat} (t : Tb kv g lo hi M) (h1 : -1000 ≤ lo) (h2 : hi ≤ 1000) (e : Int) : sm kv f e = mul g f e :=
  sm_cv f e _ _ _ t.nd fun x => by rw [t.at_, coef_tab fun e he => f_out t fun h => by have := ks_bd t h; omega]
theorem IsP.zero {d : D} {f : Int → Int} {lo hi : Int} {B : Nat} (h : IsP d f lo hi B) {e : Int} (he : e < lo ∨ hi ≤ e) : f e = 0 := by
  obtain ⟨l, ns, rfl, n1, c1, s1, z1⟩ := h
  exact IsP.out c1 s1 he
theorem times_ok2 {d d' : D} {f f' : Int → Int} {lo hi lo' hi' : Int} {B B' : Nat} (h : IsP d f lo hi B) (h' : IsP d' f' lo' hi' B') (b1 : -1000 ≤ lo) (b2 : hi ≤ 1000) (b3 : -1000 ≤ lo') (b4 : hi' ≤ 1000) (hB : B < 2 ^ 400000) (hB' : B' < 2 ^ 400000) :
    ∃ r, F_times [d, d'] = some (r, []) ∧ IsP r (mul f f') (lo + lo') (hi + hi') (20000 * (B * B')) := by
  obtain ⟨r, l, ns, e, n1, c1, s1, h1, h2⟩ := times_ok h h' (by omega) (by omega) (by omega) (by omega) hB hB'
  exact ⟨r, h1, h2.congr fun e => mul_cv c1 (fun e he => h.zero (by omega)) e⟩
theorem ltimes_ok2 {kv kv2 : List (Int × Int)} {f f2 : Int → Int} {lo hi lo2 hi2 : Int} {M M2 : Nat} (t : Tb kv f lo hi M) (t2 : Tb kv2 f2 lo2 hi2 M2) (b1 : -1000 ≤ lo) (b2 : hi ≤ 1000) (b3 : -1000 ≤ lo2) (b4 : hi2 ≤ 1000) (hM : M < 2 ^ 400000) (hM2 : M2 < 2 ^ 400000) :
    ∃ r, F__law_times [DK false kv, DK false kv2] = some (DK true r, []) ∧ Tb r (mul f f2) (lo + lo2) (hi + hi2) (20000 * (M * M2)) ∧ ∀ p ∈ r, p.2 ≠ 0 := by
  obtain ⟨r, h1, h2, h3⟩ := ltimes_ok t t2 (by omega) (by omega) (by omega) (by omega) hM hM2
  exact ⟨r, h1, h2.congr fun e => mul_sm t b1 b2 e, h3⟩
/-! ### powers -/
def pw (f : Int → Int) : Nat → Int → Int
  | 0 => fun e => if e = 0 then 1 else 0
  | n + 1 => mul (pw f n) f
def pB (B : Nat) : Nat → Nat
  | 0 => 1
  | n + 1 => 20000 * (pB B n * B)
theorem pB_lt {B : Nat} (h : B ≤ 2 ^ 100) : ∀ n, pB B n ≤ 2 ^ (n * 115)
  | 0 => by simp [pB]
  | n + 1 => by
    have := pB_lt h n
    show 20000 * (pB B n * B) ≤ _
    rw [show (n + 1) * 115 = 15 + (n * 115 + 100) by omega, Nat.pow_add, Nat.pow_add]
    exact Nat.mul_le_mul (by decide) (Nat.mul_le_mul this h)
theorem big_lt {B k : Nat} (h : B ≤ 2 ^ k) (hk : k < 1000) : B < 2 ^ 400000 := Nat.lt_of_le_of_lt h (Nat.pow_lt_pow_right (by decide) (by omega))
theorem fin_ {kv : List (Int × Int)} {f : Int → Int} {lo hi : Int} {M : Nat} (t : Tb kv f lo hi M) (b1 : -10000 ≤ lo) (b2 : hi ≤ 10000) : ∃ r, F_from_terms [DK false kv] = some (r, []) ∧ IsP r f lo hi M := by
  cases hkv : kv with
  | nil =>
    subst hkv
    refine ⟨P 0 [], ?_, 0, [], rfl, .inl ⟨rfl, rfl⟩, fun e => ?_, .inl ⟨rfl, rfl⟩, fun _ h => (by cases h)⟩
    · have e0 : gEqZ (DK false []) (.dct true false []) = some (.bl true) := rfl
      unfold F_from_terms runF
      simp [outs, e0]
      rfl
    · rw [coef_out (by simp; omega), ← t.at_]; rfl
  | cons p r0 =>
    have e0 : gEqZ (DK false kv) (.dct true false []) = some (.bl false) := by rw [hkv]; rfl
    have ekeys : keysI (en kv) = some (ks kv) := by
      unfold keysI
      rw [en_ks, ints_map]
    obtain ⟨m, hm⟩ : ∃ m, minI (ks kv) = some m := by rw [hkv]; exact ⟨_, rfl⟩
    obtain ⟨z, hz⟩ : ∃ z, maxI (ks kv) = some z := by rw [hkv]; exact ⟨_, rfl⟩
    have e1 : gMinA [DK false kv] = some (.int m) := by
      show (keysI (en kv)).bind _ = _
      rw [ekeys, Option.bind_some, hm]; rfl
    have e2 : gMaxA [DK false kv] = some (.int z) := by
      show (keysI (en kv)).bind _ = _
      rw [ekeys, Option.bind_some, hz]; rfl
    obtain ⟨m1, m2⟩ := minI_ok _ _ hm
    obtain ⟨z1, z2⟩ := maxI_ok _ _ hz
    have bm := ks_bd t m1
    have bz := ks_bd t z1
    have mz := m2 z z1
    have hg : ∀ e, e < m ∨ m + (((z + 1 - m).toNat : Nat) : Int) ≤ e → f e = 0 := fun e he => f_out t fun h => by
      have := m2 e h
      have := z2 e h
      omega
    obtain ⟨r, hr, pr⟩ := normal_P m true (tab f m (z + 1 - m).toNat) (by rw [tab_len]; omega) M fun n hn => by
      obtain ⟨k, _, e⟩ := mem_tab hn
      rw [e]
      exact t.abs _
    rw [← hkv]
    refine ⟨r, ?_, ?_⟩
    · have hc2 : fComp [2] (iRg2 (fCons [1] [] (fVar 1) (fCons [] [] (fOp [] [] gAdd (fCl gMaxA (fCons [0] [] (fVar 0) fNil)) (fC (.int 1))) fNil))) (gNm 2) fYes (fGet2 [0] [] [] (fVar 0) (fVar 2) (fC (.int 0))) [some (DK false kv), some (.int m), none] = some (.lst true ((tab f m (z + 1 - m).toNat).map .int), [some (DK false kv), some (.int m), none]) := by
        rw [← rg_map f m (z + 1 - m).toNat (fun d => match d with | .int i => .int (f i) | d => d) fun i => rfl]
        have k1 : okR m = true := by simp [okR]; omega
        have k2 : okR (z + 1) = true := by simp [okR]; omega
        refine fComp_all _ (by simp [e2, k1, k2]) (by simp [ownOk]) (fun d hd => ?_) (by rw [rgItems_length]; omega)
        unfold rgItems at hd
        obtain ⟨k, _, rfl⟩ := List.mem_map.mp hd
        have := DK_get2 false kv (m + (k : Nat)) 0
        simp [this, t.at_]
      have hr2 : F_normal [.int m, .lst false ((tab f m (z + 1 - m).toNat).map .int)] = some (r, []) := hr
      have f2 := pr.fz
      unfold F_from_terms runF
      simp [-fComp_r, outs, e0, e1, hc2, hr2, f2]
    · rw [tab_len] at pr
      have pr2 : IsP r f m (m + (((z + 1 - m).toNat : Nat) : Int)) M := pr.congr fun e => coef_tab hg e
      exact pr2.wide (by omega) (by omega) (Nat.le_refl _)
end G02

namespace G02
open PySem PySem.Spec PyProof.Rows L2 Vl
theorem gAdd_tt (a b : List Int) (h : a.length + b.length ≤ 100000) : gAdd (.tup (a.map .int)) (.tup (b.map .int)) = some (.tup ((a ++ b).map .int)) := by
  show (if (szOk ((a.map D.int).length + (b.map D.int).length) && D.noOwnL (a.map D.int) && D.noOwnL (b.map D.int)) = true then some (D.tup (a.map D.int ++ b.map D.int)) else none) = _
  rw [if_pos (by simp [szOk, h]), List.map_append]
abbrev isB : MS := sIf (fOr (fNot (fTr (fIsN "int" (fVar 1)))) (fTr (fIsN "bool" (fVar 1)))) (sRet (fC (.bl false))) sNil
theorem is_i (i : Int) (A : Option D) : isB [A, some (.int i)] = some (.nx [A, some (.int i)]) := by
  have a1 : fIsN "int" (fVar 1) [A, some (.int i)] = some (.bl true, [A, some (.int i)]) := rfl
  have a2 : fIsN "bool" (fVar 1) [A, some (.int i)] = some (.bl false, [A, some (.int i)]) := rfl
  simp [-fIsN_r, a1, a2]
theorem is_loop (A : Option D) : ∀ (ns : List Int) (x : Option D), ∃ y, forL (gNm 1) isB (ns.map .int) [A, x] = some (.nx [A, y])
  | [], x => ⟨x, rfl⟩
  | n :: r, x => by
    obtain ⟨y, h⟩ := is_loop A r (some (.int n))
    refine ⟨y, ?_⟩
    rw [List.map_cons]
    unfold forL
    rw [show gNm 1 (.int n) [A, x] = some [A, some (.int n)] from rfl, Option.bind_some, is_i, Option.bind_some]
    exact h
theorem lisP_ok (l : Int) (ns : List Int) (hz : ns.length < 100000) : ∃ b, F__law_is_poly [P l ns] = some (.bl b, []) ∧ (b = true ↔ Nf l ns) := by
  obtain ⟨y, hl⟩ := is_loop (some (P l ns)) (l :: ns) none
  have hl : forL (gNm 1) isB (.int l :: ns.map .int) [some (P l ns), none] = some (.nx [some (P l ns), y]) := hl
  have ea : gAdd (.tup [.int l]) (.tup (ns.map .int)) = some (.tup (.int l :: ns.map .int)) := gAdd_tt [l] ns (by simp; omega)
  have e2 : itemsOf (.tup (.int l :: ns.map .int)) = some (.int l :: ns.map .int) := items_t (l :: ns)
  have k1 : fIsN "tuple" (fVar 0) [some (P l ns), none] = some (.bl true, [some (P l ns), none]) := rfl
  have k2 : fIsN "tuple" (fOp [0] [] gIxA (fVar 0) (fC (.int 1))) [some (P l ns), none] = some (.bl true, [some (P l ns), none]) := rfl
  have k3 : gLen [P l ns] = some (.int 2) := rfl
  by_cases h0 : ns = []
  · subst h0
    refine ⟨decide (l = 0), ?_, ?_⟩
    · have hl : forL (gNm 1) isB [.int l] [some (P l []), none] = some (.nx [some (P l []), y]) := hl
      unfold F__law_is_poly runF
      have ea0 : gAdd (.tup [.int l]) (.tup []) = some (.tup [.int l]) := rfl
      simp [-fIsN_r, outs, k1, k2, k3, itemsOf, hl, szOk, ea0]
    · rw [decide_eq_true_iff]
      constructor
      · exact fun h => .inl ⟨rfl, h⟩
      · exact fun h => h.zero_ rfl
  · obtain ⟨a, r, ha⟩ : ∃ a r, ns = a :: r := by cases ns with | nil => exact absurd rfl h0 | cons a r => exact ⟨a, r, rfl⟩
    obtain ⟨r', z, hzz⟩ : ∃ r' z, ns = r' ++ [z] := ⟨ns.dropLast, ns.getLast h0, (List.dropLast_concat_getLast _).symm⟩
    have i1 : L2.atI (ns.map D.int) 0 = some (.int a) := atI_i (k := 0) (by rw [ha]; rfl)
    have hp : 0 < ns.length := List.length_pos_iff.mpr h0
    have i2 : L2.atI (ns.map D.int) ((ns.length : Int) - 1) = some (.int z) := by
      have e : ns[ns.length - 1]? = some z := by rw [hzz]; simp
      have := atI_i e
      rwa [show ((ns.length - 1 : Nat) : Int) = (ns.length : Int) - 1 by omega] at this
    refine ⟨!decide (a = 0) && !decide (z = 0), ?_, ?_⟩
    · have hp2 : ns.length ≠ 0 := by omega
      unfold F__law_is_poly runF
      simp [-fIsN_r, outs, k1, k2, k3, ea, e2, hl, szOk, i1, i2, h0, hp2]
      by_cases q : a = 0
      · simp [q]
      · simp [q]
    · have e1 : (!decide (a = 0) && !decide (z = 0)) = true ↔ a ≠ 0 ∧ z ≠ 0 := by simp
      rw [e1]
      constructor
      · rintro ⟨h1, h2⟩
        exact .inr ⟨⟨a, r, ha, h1⟩, r', z, hzz, h2⟩
      · rintro (⟨q, _⟩ | ⟨⟨a', r2, q, h1⟩, r3, z', q2, h2⟩)
        · exact absurd q h0
        · rw [ha] at q
          rw [hzz] at q2
          obtain ⟨q3, q4⟩ := List.append_inj' q2 rfl
          cases q
          cases q4
          exact ⟨h1, h2⟩
theorem truth_ok (b c : Bool) (h : b = c) : F__law_truth [.bl b, .bl c] = some (.bl true, []) := by
  subst h
  cases b <;> rfl
end G02

namespace G02
open PySem PySem.Spec PyProof.Rows L2 Vl
abbrev B0 : Nat := 1000000000000000000000000
theorem pow20 : gPow (.int 10) (.int 20) = some (.int 100000000000000000000) := gPow_i (by decide)
abbrev dpB : MS := (sSeq (sSet 5 (fOp [] [] gSub (fCallM F__law_draw 0 (fCons [] [] (fC (.int 9)) fNil)) (fC (.int 4))))
    (sSeq (sIf (fB (fOp [] [] gEq (fCallM F__law_draw 0 (fCons [] [] (fC (.int 8)) fNil)) (fC (.int 7)))) (sSet 5 (fOp [] [0] gAdd (fOp [] [] gMul (fOp [] [] gSub (fCallM F__law_draw 0 (fCons [] [] (fC (.int 2001)) fNil)) (fC (.int 1000))) (fOp [] [] gPow (fC (.int 10)) (fC (.int 20)))) (fCallM F__law_draw 0 (fCons [] [] (fC (.int 99)) fNil)))) sNil)
    (sAsg (gSt 2 (fOp [3] [] gAdd (fVar 3) (fVar 4))) (fVar 5))))
end G02

namespace G02
open PySem PySem.Spec PyProof.Rows L2 Vl
/-! ### sums -/
def sg (h : Int → Int) (lo : Int) : Nat → Int
  | 0 => 0
  | n + 1 => sg h lo n + h (lo + (n : Nat))
theorem sg_congr {h h' : Int → Int} {lo : Int} : ∀ {n : Nat}, (∀ k, lo ≤ k → k < lo + (n : Nat) → h k = h' k) → sg h lo n = sg h' lo n
  | 0, _ => rfl
  | n + 1, e => by
    show sg h lo n + _ = sg h' lo n + _
    rw [sg_congr fun k a b => e k a (by omega), e (lo + (n : Nat)) (by omega) (by omega)]
theorem sg_add (a b : Int → Int) (lo : Int) : ∀ n, sg (fun k => a k + b k) lo n = sg a lo n + sg b lo n
  | 0 => rfl
  | n + 1 => by
    show sg _ lo n + (a (lo + (n : Nat)) + b (lo + (n : Nat))) = sg a lo n + a (lo + (n : Nat)) + (sg b lo n + b (lo + (n : Nat)))
    rw [sg_add a b lo n]
    omega
theorem sg_zero {h : Int → Int} {lo : Int} : ∀ {n : Nat}, (∀ k, lo ≤ k → k < lo + (n : Nat) → h k = 0) → sg h lo n = 0
  | 0, _ => rfl
  | n + 1, e => by
    show sg h lo n + _ = 0
    rw [sg_zero fun k a b => e k a (by omega), e (lo + (n : Nat)) (by omega) (by omega)]
    rfl
theorem sg_one {h : Int → Int} {lo t : Int} : ∀ {n : Nat}, lo ≤ t → t < lo + (n : Nat) → (∀ k, k ≠ t → h k = 0) → sg h lo n = h t
  | 0, h1, h2, _ => by omega
  | n + 1, h1, h2, e => by
    show sg h lo n + _ = _
    by_cases q : t = lo + (n : Nat)
    · rw [sg_zero fun k a b => e k (by omega), ← q]; omega
    · rw [sg_one h1 (by omega) e, e (lo + (n : Nat)) (fun z => q z.symm)]; omega
theorem cv_app (x : Int) (f : Int → Int) (e : Int) : ∀ (ns : List Int) (l : Int), cv l (ns ++ [x]) f e = cv l ns f e + x * f (e - (l + (ns.length : Nat)))
  | [], l => by
    show x * f (e - l) + 0 = 0 + x * f (e - (l + ((0 : Nat) : Int)))
    rw [show l + ((0 : Nat) : Int) = l by omega]; omega
  | n :: r, l => by
    show n * f (e - l) + cv (l + 1) (r ++ [x]) f e = n * f (e - l) + cv (l + 1) r f e + _
    rw [cv_app x f e r (l + 1), List.length_cons, show l + 1 + (r.length : Int) = l + ((r.length + 1 : Nat) : Int) by omega]
    omega
theorem cv_tab (g f : Int → Int) (lo e : Int) : ∀ n, cv lo (tab g lo n) f e = sg (fun k => g k * f (e - k)) lo n
  | 0 => rfl
  | n + 1 => by rw [tab_succ, cv_app, cv_tab g f lo e n, tab_len]; rfl
theorem mul_sg (g f : Int → Int) (e : Int) : mul g f e = sg (fun k => g k * f (e - k)) (-1000) 2000 := cv_tab g f (-1000) e 2000
theorem mul_add (a b f : Int → Int) (e : Int) : mul (fun k => a k + b k) f e = mul a f e + mul b f e := by
  rw [mul_sg, mul_sg, mul_sg, ← sg_add]
  exact sg_congr fun k _ _ => Int.add_mul _ _ _
theorem mul_sub (a b f : Int → Int) (e : Int) : mul (fun k => a k - b k) f e = mul a f e - mul b f e := by
  have h := mul_add (fun k => a k - b k) b f e
  have e1 : (fun k => (fun k => a k - b k) k + b k) = a := funext fun k => by show a k - b k + b k = a k; omega
  rw [e1] at h
  omega
theorem mul_zero (f : Int → Int) (e : Int) : mul (fun _ => 0) f e = 0 := by
  rw [mul_sg]
  exact sg_zero fun k _ _ => Int.zero_mul _
theorem mul_one_ (f : Int → Int) {t q : Int} (h1 : -1000 ≤ t) (h2 : t < 1000) (e : Int) : mul (fun k => if k = t then q else 0) f e = q * f (e - t) := by
  rw [mul_sg, sg_one (t := t) h1 (by omega) fun k hk => by show (if k = t then q else 0) * _ = 0; rw [if_neg hk, Int.zero_mul]]
  show (if t = t then q else 0) * _ = _
  rw [if_pos rfl]
theorem mul_top {h g : Int → Int} {t t2 : Int} (h1 : -1000 ≤ t) (h2 : t < 1000) (hz : ∀ e, t < e → h e = 0) (gz : ∀ e, t2 < e → g e = 0) : mul h g (t + t2) = h t * g t2 := by
  rw [mul_sg, sg_one (t := t) h1 (by omega) fun k hk => ?_]
  · show h t * g (t + t2 - t) = _
    rw [show t + t2 - t = t2 by omega]
  · show h k * g (t + t2 - k) = 0
    by_cases q : t < k
    · rw [hz k q, Int.zero_mul]
    · rw [gz _ (by omega), Int.mul_zero]
theorem mul_low {h g : Int → Int} {t t2 : Int} (h1 : -1000 ≤ t) (h2 : t < 1000) (hz : ∀ e, e < t → h e = 0) (gz : ∀ e, e < t2 → g e = 0) : mul h g (t + t2) = h t * g t2 := by
  rw [mul_sg, sg_one (t := t) h1 (by omega) fun k hk => ?_]
  · show h t * g (t + t2 - t) = _
    rw [show t + t2 - t = t2 by omega]
  · show h k * g (t + t2 - k) = 0
    by_cases q : k < t
    · rw [hz k q, Int.zero_mul]
    · rw [gz _ (by omega), Int.mul_zero]
theorem top_zero {h g : Int → Int} {t2 T : Int} (hg : g t2 ≠ 0) (gz : ∀ e, t2 < e → g e = 0) (hs : ∀ e, 1000 ≤ e → h e = 0) (hT : -1000 ≤ T) (hp : ∀ e, T ≤ e → mul h g (e + t2) = 0) : ∀ e, T ≤ e → h e = 0 := by
  have key : ∀ n : Nat, ∀ e, T ≤ e → 1000 - (n : Int) ≤ e → h e = 0 := by
    intro n
    induction n with
    | zero => exact fun e _ h => hs e (by omega)
    | succ n ih =>
      intro e h1 h2
      by_cases q : 1000 - (n : Int) ≤ e
      · exact ih e h1 q
      · have m := mul_top (h := h) (g := g) (t := e) (t2 := t2) (by omega) (by omega) (fun x hx => ih x (by omega) (by omega)) gz
        rw [hp e h1] at m
        exact (Int.mul_eq_zero.mp m.symm).resolve_right hg
  exact fun e he => key (1000 - e).toNat e he (by omega)
theorem low_zero {h g : Int → Int} {t2 T : Int} (hg : g t2 ≠ 0) (gz : ∀ e, e < t2 → g e = 0) (hs : ∀ e, e < -1000 → h e = 0) (hT : T ≤ 1000) (hp : ∀ e, e < T → mul h g (e + t2) = 0) : ∀ e, e < T → h e = 0 := by
  have key : ∀ n : Nat, ∀ e, e < T → e < -1000 + (n : Int) → h e = 0 := by
    intro n
    induction n with
    | zero => exact fun e _ h => hs e (by omega)
    | succ n ih =>
      intro e h1 h2
      by_cases q : e < -1000 + (n : Int)
      · exact ih e h1 q
      · have m := mul_low (h := h) (g := g) (t := e) (t2 := t2) (by omega) (by omega) (fun x hx => ih x (by omega) (by omega)) gz
        rw [hp e h1] at m
        exact (Int.mul_eq_zero.mp m.symm).resolve_right hg
  exact fun e he => key (e + 1001).toNat e he (by omega)
/-- a polynomial that is not 0: its ends -/
structure Ends (g : Int → Int) (b t : Int) : Prop where
  bt : b ≤ t
  b0 : g b ≠ 0
  t0 : g t ≠ 0
  lo : ∀ e, e < b → g e = 0
  hi : ∀ e, t < e → g e = 0
def In9 (h : Int → Int) : Prop := ∀ e, e < -900 ∨ 900 ≤ e → h e = 0
theorem mul_inj {h h' g : Int → Int} {b t : Int} (n : Ends g b t) (s : In9 h) (s' : In9 h') (e : ∀ x, mul h g x = mul h' g x) : ∀ x, h x = h' x := by
  intro x
  have z := top_zero (h := fun k => h k - h' k) (T := -1000) n.t0 n.hi (fun e he => by show h e - h' e = 0; rw [s e (by omega), s' e (by omega)]; rfl) (by decide) fun k _ => by rw [mul_sub, e]; omega
  by_cases q : -1000 ≤ x
  · have := z x q
    have : h x - h' x = 0 := this
    omega
  · rw [s x (by omega), s' x (by omega)]
def Has (f g : Int → Int) : Prop := ∃ h, In9 h ∧ ∀ e, mul h g e = f e
theorem ends_P {l : Int} {ns : List Int} (n : Nf l ns) (hn : ns ≠ []) : Ends (coef l ns) l (l + ((ns.length - 1 : Nat) : Int)) := by
  have p : 0 < ns.length := List.length_pos_iff.mpr hn
  exact ⟨by omega, n.first hn, n.last hn, fun e he => coef_out (.inl he), fun e he => coef_out (.inr (by omega))⟩
/-- what a step of the division says of each other factor -/
theorem div_step {f g h H L : Int → Int} {b t T : Int} (n : Ends g b t) (hs : In9 h) (Hs : In9 H) (hf : ∀ e, mul h g e = f e) (hL : ∀ e, f e = L e + mul H g e) (hT : -900 ≤ T) (hT2 : T < 900) (z : ∀ e, T + t < e → L e = 0) :
    (∀ e, T < e → h e = H e) ∧ L (T + t) = (h T - H T) * g t := by
  have hm : ∀ e, mul (fun k => h k - H k) g e = L e := fun e => by rw [mul_sub, hf, hL]; omega
  have z1 := top_zero (h := fun k => h k - H k) (T := T + 1) n.t0 n.hi (fun e he => by show h e - H e = 0; rw [hs e (by omega), Hs e (by omega)]; rfl) (by omega) fun k hk => by rw [hm, z _ (by omega)]
  refine ⟨fun e he => ?_, ?_⟩
  · have := z1 e (by omega)
    have : h e - H e = 0 := this
    omega
  · rw [← hm, mul_top (by omega) (by omega) (fun e he => z1 e (by omega)) n.hi]
theorem div_low {f g h H L : Int → Int} {b t B : Int} (n : Ends g b t) (hs : In9 h) (Hs : In9 H) (hf : ∀ e, mul h g e = f e) (hL : ∀ e, f e = L e + mul H g e) (hB : B ≤ 900) (z : ∀ e, e < B + b → L e = 0) : ∀ e, e < B → h e = H e := by
  have hm : ∀ e, mul (fun k => h k - H k) g e = L e := fun e => by rw [mul_sub, hf, hL]; omega
  have z1 := low_zero (h := fun k => h k - H k) (T := B) n.b0 n.lo (fun e he => by show h e - H e = 0; rw [hs e (by omega), Hs e (by omega)]; rfl) (by omega) fun k hk => by rw [hm, z _ (by omega)]
  intro e he
  have := z1 e he
  have : h e - H e = 0 := this
  omega
end G02

namespace G02
open PySem PySem.Spec PyProof.Rows L2 Vl
theorem atI_last {α : Type} (l : List α) (x : α) : L2.atI (l ++ [x]) (-1) = some x := by
  unfold L2.atI L2.ixN
  rw [if_neg (by decide), if_pos (by simp; omega)]
  show (l ++ [x])[((-1 : Int) + ((l ++ [x]).length : Nat)).toNat]? = _
  have e : ((-1 : Int) + ((l ++ [x]).length : Nat)).toNat = l.length := by simp; omega
  rw [e]
  simp
theorem get_last (o : Bool) (fs : List Int) (q : Int) : gIxA (.lst o ((fs ++ [q]).map .int)) (.int (-1)) = some (.int q) := by
  show L2.atI _ _ = _
  rw [List.map_append]
  exact atI_last _ _
abbrev qiB : MS := sAugS 2 gSub (fOp [5] [] gAdd (fVar 5) (fVar 7)) (fOp [3] [] gMul (fOp [3] [] gIxA (fVar 3) (fUn gNeg (fC (.int 1)))) (fVar 8))
abbrev qiG : D → Vl.Env → Option Vl.Env := gTp 2 (gsCons (gNm 7) (gsCons (gNm 8) gsNil))
theorem q_in (A B : Option D) (fs : List Int) (q : Int) (C E : Option D) (k0 : Nat) : ∀ (rest acc : List Int) (j : Nat) (x7 x8 : Option D), k0 + j + rest.length ≤ acc.length → (∀ s ∈ rest, gMul (.int q) (.int s) = some (.int (q * s))) →
    ∃ y7 y8, forL qiG qiB (enumD j (rest.map .int)) [A, B, some (.lst true (acc.map .int)), some (.lst true ((fs ++ [q]).map .int)), C, some (.int (k0 : Int)), E, x7, x8] = some (.nx [A, B, some (.lst true ((inn acc (k0 + j) (-q) rest).map .int)), some (.lst true ((fs ++ [q]).map .int)), C, some (.int (k0 : Int)), E, y7, y8])
  | [], acc, j, x7, x8, _, _ => ⟨x7, x8, rfl⟩
  | s :: r, acc, j, x7, x8, h, hm => by
    have h : k0 + j + (r.length + 1) ≤ acc.length := h
    obtain ⟨y7, y8, ih⟩ := q_in A B fs q C E k0 r (acc.set (k0 + j) ((acc[k0 + j]?).getD 0 + -q * s)) (j + 1) (some (.int (j : Int))) (some (.int s)) (by rw [List.length_set]; omega) fun x hx => hm x (List.mem_cons_of_mem _ hx)
    refine ⟨y7, y8, ?_⟩
    have e1 := get_ints (acc := acc) (k := k0 + j) (by omega)
    have e2 := set_ints (acc := acc) (k := k0 + j) (by omega) ((acc[k0 + j]?).getD 0 + -q * s)
    have e3 := hm s List.mem_cons_self
    have e4 := get_last true fs q
    have e5 : (acc[k0 + j]?).getD 0 - q * s = (acc[k0 + j]?).getD 0 + -q * s := by rw [Int.neg_mul]; omega
    have ek : (((k0 + j : Nat)) : Int) = (k0 : Int) + (j : Int) := by omega
    rw [ek] at e1 e2
    rw [← e5] at e2
    rw [List.map_cons]
    unfold enumD forL inn
    rw [show k0 + (j + 1) = k0 + j + 1 by omega] at ih
    rw [← e5] at ih ⊢
    simp [-List.map_set, -List.map_append, e1, e2, e3, e4]
    exact ih
/-- a slot that may be laid aside -/
def okS (x : Option D) : Prop := ∀ d, x = some d → d.noOwn = true
abbrev qB : MS := (sSeq (sSet 6 (chk (fOp [2] [] gIxA (fVar 2) (fOp [] [] gSub (fOp [5] [] gAdd (fVar 5) (fCl gLen (fCons [1] [] (fOp [1] [] gIxA (fVar 1) (fC (.int 1))) fNil))) (fC (.int 1))))))
    (sSeq (sIf (fB (fOp [] [] gNe (fOp [6] [] gMod (fVar 6) (fVar 4)) (fC (.int 0)))) (sRet (fC .non)) sNil)
    (sSeq (sDrop (fMut 3 "list" gAppend (fCons [] [] (fOp [6] [] gDiv (fVar 6) (fVar 4)) fNil)))
    (sFor (iEnm (fOp [1] [] gIxA (fVar 1) (fC (.int 1)))) qiG qiB))))
theorem rgDown_succ (i : Int) (n : Nat) : rgDown i (n + 1) = .int i :: rgDown (i - 1) n := by
  unfold rgDown
  rw [List.range_succ_eq_map, List.map_cons, List.map_map]
  refine congr (congrArg _ (by simp)) (List.map_congr_left fun k _ => ?_)
  show D.int (i - ((k + 1 : Nat) : Int)) = D.int (i - 1 - (k : Nat))
  congr 1
  omega
theorem pow_le2 {a b : Nat} (h : a ≤ b) : 2 ^ a ≤ 2 ^ b := Nat.pow_le_pow_right (by decide) h
theorem append_ok (fs : List Int) (q : Int) (h : fs.length ≤ 100000) : gAppend (.lst true (fs.map .int)) [.int q] = some (.non, .lst true ((fs ++ [q]).map .int)) := by
  show (if szOk (fs.map D.int).length = true then some (D.non, D.lst true (fs.map D.int ++ [.int q])) else none) = _
  rw [if_pos (by simp [szOk, h]), List.map_append]
  rfl
theorem mem_coef {l : Int} {ns : List Int} {n : Int} (h : n ∈ ns) : ∃ e, n = coef l ns e := by
  obtain ⟨k, hk, rfl⟩ := List.mem_iff_getElem.mp h
  exact ⟨_, (coef_at hk).symm⟩
theorem in9_coef {l : Int} {ns : List Int} (h1 : -900 ≤ l) (h2 : l + (ns.length : Nat) ≤ 900) : In9 (coef l ns) := fun e he => coef_out (by omega)
theorem q_loop (A : Option D) (l1 l2 : Int) (ns2 : List Int) (f : Int → Int) (n2 : Nf l2 ns2) (hn2 : ns2 ≠ []) (z2 : ∀ n ∈ ns2, n.natAbs ≤ 2 ^ 100) (N : Nat) (hN : N ≤ 100) (b1 : -50 ≤ l1 ∧ l1 ≤ 50) (b2 : -50 ≤ l2 ∧ l2 + (ns2.length : Nat) ≤ 50) (ld : Int) (hld : ld = coef l2 ns2 (l2 + ((ns2.length - 1 : Nat) : Int))) :
    ∀ (p : Nat) (left fs : List Int) (k : Nat) (x5 x6 x7 x8 : Option D), left.length = N → (0 < p → p + ns2.length ≤ N + 1) → fs.length + p ≤ 100 →
    (∀ e, f e = coef l1 left e + mul (coef (l1 - l2 + (p : Nat)) fs.reverse) (coef l2 ns2) e) → (∀ e, l1 + (p : Nat) + (ns2.length : Nat) - 1 ≤ e → coef l1 left e = 0) → (∀ n ∈ left, n.natAbs ≤ 2 ^ k) → k + 101 * p ≤ 30000 → (∀ n ∈ fs, n.natAbs ≤ 2 ^ 30000) → okS x6 →
    (∃ ρ, forL (gNm 5) qB (rgDown ((p : Int) - 1) p) [A, some (P l2 ns2), some (.lst true (left.map .int)), some (.lst true (fs.map .int)), some (.int ld), x5, x6, x7, x8] = some (.rt .non ρ) ∧ ¬ Has f (coef l2 ns2)) ∨
    ∃ (left' fs' : List Int) (y5 y6 y7 y8 : Option D), forL (gNm 5) qB (rgDown ((p : Int) - 1) p) [A, some (P l2 ns2), some (.lst true (left.map .int)), some (.lst true (fs.map .int)), some (.int ld), x5, x6, x7, x8] = some (.nx [A, some (P l2 ns2), some (.lst true (left'.map .int)), some (.lst true (fs'.map .int)), some (.int ld), y5, y6, y7, y8]) ∧
      left'.length = N ∧ fs'.length ≤ 100 ∧ (∀ e, f e = coef l1 left' e + mul (coef (l1 - l2) fs'.reverse) (coef l2 ns2) e) ∧ (∀ e, l1 + (ns2.length : Nat) - 1 ≤ e → coef l1 left' e = 0) ∧ (∀ n ∈ fs', n.natAbs ≤ 2 ^ 30000) ∧ okS y6
  | 0, left, fs, k, x5, x6, x7, x8, h1, h2, h3, h4, h5, h6, h7, h8, h9 => .inr ⟨left, fs, x5, x6, x7, x8, rfl, h1, by omega, fun e => by rw [h4]; simp, fun e he => h5 e (by omega), h8, h9⟩
  | p + 1, left, fs, k, x5, x6, x7, x8, h1, h2, h3, h4, h5, h6, h7, h8, hx6 => by
    have h2 := h2 (by omega)
    have lp : 0 < ns2.length := List.length_pos_iff.mpr hn2
    have en := ends_P n2 hn2
    have ep : ((p + 1 : Nat) : Int) - 1 = (p : Nat) := by omega
    obtain ⟨m, hm⟩ : ∃ m, m = coef l1 left (l1 + ((p + ns2.length - 1 : Nat) : Int)) := ⟨_, rfl⟩
    have hml : left[p + ns2.length - 1]? = some m := by
      rw [hm, coef_at (by omega)]
      exact List.getElem?_eq_getElem (by omega)
    have e1 : gIxA (.lst true (left.map .int)) (.int ((p : Int) + (ns2.length : Int) - 1)) = some (.int m) := by
      have := atI_i hml
      rw [show ((p + ns2.length - 1 : Nat) : Int) = (p : Int) + (ns2.length : Int) - 1 by omega] at this
      exact this
    have hmb : m.natAbs ≤ 2 ^ k := by rw [hm]; exact coef_bd h6 _
    have hldb : ld.natAbs ≤ 2 ^ 100 := by rw [hld]; exact coef_bd z2 _
    have hld0 : ld ≠ 0 := by rw [hld]; exact en.t0
    have e2 : gMod (.int m) (.int ld) = some (.int (m.fmod ld)) := gMod_i hld0
    have e3 : gDiv (.int m) (.int ld) = some (.int (m.fdiv ld)) := gDiv_L hld0 (Nat.lt_of_le_of_lt hldb (Nat.pow_lt_pow_right (by decide) (by decide)))
    have Hs : In9 (coef (l1 - l2 + ((p + 1 : Nat) : Int)) fs.reverse) := in9_coef (by omega) (by rw [List.length_reverse]; omega)
    rw [ep, rgDown_succ]
    by_cases h0 : m.fmod ld = 0
    · obtain ⟨q, hq⟩ : ∃ q, q = m.fdiv ld := ⟨_, rfl⟩
      rw [← hq] at e3
      have hmq : m = ld * q := by
        have := Int.fmod_add_mul_fdiv m ld
        rw [h0, ← hq] at this
        omega
      have hqb : q.natAbs ≤ 2 ^ k := by
        refine Nat.le_trans ?_ hmb
        rw [hmq, Int.natAbs_mul]
        exact Nat.le_mul_of_pos_left _ (by omega)
      have hk2 : 2 ^ k + 2 ^ k * 2 ^ 100 ≤ 2 ^ (k + 101) := by
        rw [Nat.pow_add]
        have : 2 ^ k * 1 + 2 ^ k * 2 ^ 100 ≤ 2 ^ k * 2 ^ 101 := by
          rw [← Nat.mul_add]
          exact Nat.mul_le_mul_left _ (by decide)
        omega
      have hmul : ∀ s ∈ ns2, gMul (.int q) (.int s) = some (.int (q * s)) := fun s hs => gMul_i (by
        unfold cMul bitsOk
        rw [decide_eq_true (show q.natAbs < 2 ^ 400000 from Nat.lt_of_le_of_lt hqb (Nat.pow_lt_pow_right (by decide) (by omega))), decide_eq_true (show s.natAbs < 2 ^ 400000 from Nat.lt_of_le_of_lt (z2 s hs) (Nat.pow_lt_pow_right (by decide) (by decide)))]
        simp)
      obtain ⟨y7, y8, h9⟩ := q_in A (some (P l2 ns2)) fs q (some (.int ld)) (some (.int m)) p ns2 left 0 x7 x8 (by omega) hmul
      rw [Nat.add_zero] at h9
      have hc : ∀ e, coef l1 (inn left p (-q) ns2) e = coef l1 left e + -q * coef l2 ns2 (e - (l1 - l2 + (p : Nat))) := fun e => by
        rw [coef_inn _ _ _ _ _ _ (by omega)]
        unfold coef
        rw [show e - (l1 + (p : Int)) = e - (l1 - l2 + (p : Nat)) - l2 by omega]
      have hH : ∀ e, coef (l1 - l2 + (p : Nat)) (fs ++ [q]).reverse e = (if e = l1 - l2 + (p : Nat) then q else 0) + coef (l1 - l2 + ((p + 1 : Nat) : Int)) fs.reverse e := fun e => by
        rw [List.reverse_append, List.reverse_singleton, List.singleton_append, coef_cons]
        rw [show l1 - l2 + ((p : Nat) : Int) + 1 = l1 - l2 + ((p + 1 : Nat) : Int) by omega]
      have hmH : ∀ e, mul (coef (l1 - l2 + (p : Nat)) (fs ++ [q]).reverse) (coef l2 ns2) e = q * coef l2 ns2 (e - (l1 - l2 + (p : Nat))) + mul (coef (l1 - l2 + ((p + 1 : Nat) : Int)) fs.reverse) (coef l2 ns2) e := fun e => by
        rw [funext hH, mul_add, mul_one_ _ (by omega) (by omega)]
      have ih := q_loop A l1 l2 ns2 f n2 hn2 z2 N hN b1 b2 ld hld p (inn left p (-q) ns2) (fs ++ [q]) (k + 101) (some (.int (p : Nat))) (some (.int m)) y7 y8 (by rw [inn_len, h1]) (fun _ => by omega) (by simp; omega) (fun e => by
          rw [hc, hmH, h4, Int.neg_mul]
          omega) (fun e he => by
          rw [hc]
          by_cases q1 : e = l1 + (p : Nat) + (ns2.length : Nat) - 1
          · have a1 : e = l1 + ((p + ns2.length - 1 : Nat) : Int) := by omega
            have a2 : e - (l1 - l2 + (p : Nat)) = l2 + ((ns2.length - 1 : Nat) : Int) := by omega
            rw [a2, ← hld, a1, ← hm, hmq, Int.neg_mul, Int.mul_comm]
            omega
          · rw [h5 e (by omega), coef_out (l := l2) (.inr (by omega))]
            simp) (fun n hn => by
          obtain ⟨e, he⟩ := mem_coef (l := l1) hn
          rw [he, hc]
          have c1 := coef_bd (l := l1) h6 e
          have c2 := coef_bd (l := l2) z2 (e - (l1 - l2 + (p : Nat)))
          have c3 : (-q * coef l2 ns2 (e - (l1 - l2 + (p : Nat)))).natAbs ≤ 2 ^ k * 2 ^ 100 := by
            rw [Int.natAbs_mul, Int.natAbs_neg]
            exact Nat.mul_le_mul hqb c2
          have := Int.natAbs_add_le (coef l1 left e) (-q * coef l2 ns2 (e - (l1 - l2 + (p : Nat))))
          omega) (by omega) (fun n hn => by
          rcases List.mem_append.mp hn with hn | hn
          · exact h8 n hn
          · rw [List.mem_singleton.mp hn]
            exact Nat.le_trans hqb (pow_le2 (by omega))) (fun d hd => by cases hd; rfl)
      have e4 := append_ok fs q (by omega)
      have st : forL (gNm 5) qB (.int (p : Nat) :: rgDown ((p : Nat) - 1) p) [A, some (P l2 ns2), some (.lst true (left.map .int)), some (.lst true (fs.map .int)), some (.int ld), x5, x6, x7, x8] = forL (gNm 5) qB (rgDown ((p : Nat) - 1) p) [A, some (P l2 ns2), some (.lst true ((inn left p (-q) ns2).map .int)), some (.lst true ((fs ++ [q]).map .int)), some (.int ld), some (.int (p : Nat)), some (.int m), y7, y8] := by
        rw [forL]
        simp [-List.map_append, e1, e2, e3, h0, e4, h9, tyIs]
      rw [st]
      exact ih
    · refine .inl ⟨[A, some (P l2 ns2), some (.lst true (left.map .int)), some (.lst true (fs.map .int)), some (.int ld), some (.int (p : Nat)), some (.int m), x7, x8], ?_, ?_⟩
      · rw [forL]
        simp [e1, e2, h0]
      · rintro ⟨h, hs, hf⟩
        have ds := div_step (L := coef l1 left) (T := l1 - l2 + (p : Nat)) en hs Hs hf h4 (by omega) (by omega) fun e he => h5 e (by omega)
        have a1 : l1 - l2 + (p : Nat) + (l2 + ((ns2.length - 1 : Nat) : Int)) = l1 + ((p + ns2.length - 1 : Nat) : Int) := by omega
        have d2 := ds.2
        rw [a1, ← hm, ← hld] at d2
        rw [d2] at h0
        exact h0 (Int.mul_fmod_left _ _)
end G02

namespace G02
open PySem PySem.Spec PyProof.Rows L2 Vl
theorem bls_map : ∀ bs : List Bool, bls? (bs.map D.bl) = some bs
  | [] => rfl
  | b :: r => by
    show (bls? (r.map D.bl)).bind (fun l => some (b :: l)) = _
    rw [bls_map r]
    rfl
theorem any_bl (bs : List Bool) : gAny [.lst true (bs.map .bl)] = some (.bl (bs.any id)) := by
  show (bls? (bs.map D.bl)).bind _ = _
  rw [bls_map]
  rfl
theorem listA_t (ns : List Int) : gListA [.tup (ns.map .int)] = some (.lst true (ns.map .int)) := by
  show (if D.noOwnL (ns.map D.int) = true then _ else _) = _
  rw [if_pos (noOwnL_ints ns)]
theorem revS_l (o : Bool) (ns : List Int) : gRevS (.lst o (ns.map .int)) = some (.lst true (ns.reverse.map .int)) := by
  show (if D.noOwnL (ns.map D.int) = true then some (D.lst true (ns.map D.int).reverse) else none) = _
  rw [if_pos (noOwnL_ints ns), List.map_reverse]
theorem quotient_ok {d d' : D} {f g : Int → Int} (h : IsP d f (-50) 50 (2 ^ 1000)) (h' : IsP d' g (-50) 50 (2 ^ 100)) {b t : Int} (en : Ends g b t) :
    ∃ r, F_quotient [d, d'] = some (r, []) ∧ ((r = .non ∧ ¬ Has f g) ∨ ∃ h, IsP r h (-200) 200 (2 ^ 30000) ∧ In9 h ∧ ∀ e, mul h g e = f e) := by
  obtain ⟨l1, ns1, rfl, n1, c1, s1, z1⟩ := h
  obtain ⟨l2, ns2, rfl, n2, c2, s2, z2⟩ := h'
  by_cases e1 : l1 = 0 ∧ ns1 = []
  · refine ⟨P 0 [], ?_, .inr ⟨fun _ => 0, ⟨0, [], rfl, .inl ⟨rfl, rfl⟩, fun e => coef_out (by simp; omega), .inl ⟨rfl, rfl⟩, fun _ h => (by cases h)⟩, fun _ _ => rfl, fun e => ?_⟩⟩
    · unfold F_quotient runF
      simp [outs, e1]
      rfl
    · rw [mul_zero, ← c1, e1.2, coef_out (by simp; omega)]
  · have q1 : -50 ≤ l1 ∧ l1 + (ns1.length : Nat) ≤ 50 := s1.resolve_left fun q => e1 ⟨q.2, q.1⟩
    have hn2 : ns2 ≠ [] := fun q => en.b0 (by rw [← c2, q, coef_out (by simp; omega)])
    have hn1 : ns1 ≠ [] := fun q => e1 ⟨n1.zero_ q, q⟩
    have q2 : -50 ≤ l2 ∧ l2 + (ns2.length : Nat) ≤ 50 := s2.resolve_left fun q => hn2 q.1
    have lp : 0 < ns2.length := List.length_pos_iff.mpr hn2
    have lp1 : 0 < ns1.length := List.length_pos_iff.mpr hn1
    have en2 := ends_P n2 hn2
    have fg : coef l2 ns2 = g := funext c2
    have ff : coef l1 ns1 = f := funext c1
    obtain ⟨ld, hld⟩ : ∃ ld, ld = coef l2 ns2 (l2 + ((ns2.length - 1 : Nat) : Int)) := ⟨_, rfl⟩
    have eld : L2.atI (ns2.map D.int) (-1) = some (.int ld) := by
      have e : ns2[ns2.length - 1]? = some ld := by
        rw [hld, coef_at (by omega)]
        exact List.getElem?_eq_getElem (by omega)
      obtain ⟨r, z, hz⟩ : ∃ r z, ns2 = r ++ [z] := ⟨ns2.dropLast, ns2.getLast hn2, (List.dropLast_concat_getLast _).symm⟩
      rw [hz] at e ⊢
      rw [List.map_append]
      simp at e
      rw [← e]
      exact atI_last _ _
    obtain ⟨p, hp⟩ : ∃ p : Nat, p = ns1.length + 1 - ns2.length := ⟨_, rfl⟩
    have hit : ∀ x : Int, x = (ns1.length : Int) - (ns2.length : Int) → rgDown x (x + 1).toNat = rgDown ((p : Int) - 1) p := fun x hx => by
      by_cases q : ns2.length ≤ ns1.length
      · rw [show x = (p : Int) - 1 by omega, show ((p : Int) - 1 + 1).toNat = p by omega]
      · have p0 : p = 0 := by omega
        rw [show (x + 1).toNat = 0 by omega, p0]
        rfl
    have hl0 : ∀ e, f e = coef l1 ns1 e + mul (coef (l1 - l2 + (p : Nat)) ([] : List Int).reverse) (coef l2 ns2) e := fun e => by
      have : coef (l1 - l2 + (p : Nat)) ([] : List Int).reverse = fun _ => 0 := funext fun e => coef_out (by simp; omega)
      rw [this, mul_zero, c1]
      omega
    have ek : okR ((ns1.length : Int) - (ns2.length : Int)) = true := by simp [okR]; omega
    have edn : downOf [.int ((ns1.length : Int) - (ns2.length : Int)), .int (-1), .int (-1)] = some ((ns1.length : Int) - (ns2.length : Int), ((ns1.length : Int) - (ns2.length : Int) - -1).toNat) := by
      show (if (okR _ && okR (-1)) = true then _ else _) = _
      rw [ek]
      rfl
    have hla := listA_t ns1
    have hloop := q_loop (some (P l1 ns1)) l1 l2 ns2 f n2 hn2 z2 ns1.length (by omega) (by omega) (by omega) ld hld p ns1 [] 1000 none none none none rfl (fun _ => by omega) (by simp; omega) hl0 (fun e he => coef_out (by omega)) z1 (by omega) (fun _ h => by cases h) (fun _ h => by cases h)
    rw [← hit _ rfl] at hloop
    rcases hloop with ⟨ρ, h1, h2⟩ | ⟨left, fs, y5, y6, y7, y8, h1, h2, h3, h4, h5, h6, h7⟩
    · refine ⟨.non, ?_, .inl ⟨rfl, by rw [← fg]; exact h2⟩⟩
      unfold F_quotient runF
      rw [List.map_nil] at h1
      simp [outs, e1, hla, eld, szOk, edn, h1]
    · have hc : fComp [6] (iSeq (fVar 2)) (gNm 6) fYes (fOp [6] [] gNe (fVar 6) (fC (.int 0))) [some (P l1 ns1), some (P l2 ns2), some (.lst true (left.map .int)), some (.lst true (fs.map .int)), some (.int ld), y5, y6, y7, y8] = some (.lst true ((left.map fun n => !decide (n = 0)).map .bl), [some (P l1 ns1), some (P l2 ns2), some (.lst true (left.map .int)), some (.lst true (fs.map .int)), some (.int ld), y5, y6, y7, y8]) := by
        have e0 : (left.map fun n => !decide (n = 0)).map D.bl = (left.map D.int).map (fun d => match d with | .int i => .bl (!decide (i = 0)) | d => d) := by
          rw [List.map_map, List.map_map]
          rfl
        rw [e0]
        refine fComp_all _ (by simp [itemsOf]) (by cases y6 with | none => simp [ownOk] | some d => simp [ownOk, h7 d rfl]) (fun d hd => ?_) (by simp; omega)
        obtain ⟨n, _, rfl⟩ := List.mem_map.mp hd
        simp
      have hany := any_bl (left.map fun n => !decide (n = 0))
      have in1 : In9 (coef (l1 - l2) fs.reverse) := in9_coef (by omega) (by rw [List.length_reverse]; omega)
      by_cases hz : (left.map fun n => !decide (n = 0)).any id = true
      · rw [hz] at hany
        refine ⟨.non, ?_, .inl ⟨rfl, ?_⟩⟩
        · unfold F_quotient runF
          rw [List.map_nil] at h1
          simp [-fComp_r, -List.map_map, outs, e1, hla, eld, szOk, edn, h1, hc, hany]
        · rw [← fg]
          rintro ⟨h, hs, hf⟩
          have d1 := (div_step (L := coef l1 left) (T := l1 - l2 - 1) en2 hs in1 hf h4 (by omega) (by omega) fun e he => h5 e (by omega)).1
          have d2 := div_low (L := coef l1 left) (B := l1 - l2) en2 hs in1 hf h4 (by omega) fun e he => coef_out (.inl (by omega))
          have d3 : h = coef (l1 - l2) fs.reverse := funext fun e => by
            by_cases q : e < l1 - l2
            · exact d2 e q
            · exact d1 e (by omega)
          rw [List.any_map, List.any_eq_true] at hz
          obtain ⟨n, hn, hn0⟩ := hz
          obtain ⟨e, he⟩ := mem_coef (l := l1) hn
          have := h4 e
          rw [← hf e, d3] at this
          simp at hn0
          omega
      · have hzf : (left.map fun n => !decide (n = 0)).any id = false := by simpa using hz
        rw [hzf] at hany
        obtain ⟨r, hr, pr⟩ := normal_P (l1 - l2) true fs.reverse (by rw [List.length_reverse]; omega) (2 ^ 30000) (fun n hn => h6 n (List.mem_reverse.mp hn))
        have hr2 : F_normal [.int (l1 - l2), .lst false (fs.reverse.map .int)] = some (r, []) := hr
        have g2 := pr.fz
        have hrv := revS_l true fs
        refine ⟨r, ?_, .inr ⟨_, pr.wide (by omega) (by rw [List.length_reverse]; omega) (Nat.le_refl _), in1, fun e => ?_⟩⟩
        · unfold F_quotient runF
          rw [List.map_nil] at h1
          simp [-fComp_r, -List.map_map, -List.map_reverse, outs, e1, hla, eld, szOk, edn, h1, hc, hany, hrv, hr2, g2]
        · rw [← fg, h4]
          have : coef l1 left e = 0 := by
            by_cases ho : e < l1 ∨ l1 + (left.length : Nat) ≤ e
            · exact coef_out ho
            · obtain ⟨k, rfl⟩ : ∃ k : Nat, e = l1 + k := ⟨(e - l1).toNat, by omega⟩
              rw [coef_at (by omega)]
              refine Classical.byContradiction fun q => hz ?_
              rw [List.any_map, List.any_eq_true]
              exact ⟨_, List.getElem_mem (show k < left.length by omega), by simp [q]⟩
          omega
end G02

namespace G02
open PySem PySem.Spec PyProof.Rows L2 Vl
theorem min_DK (o : Bool) {kv : List (Int × Int)} (h : kv ≠ []) : ∃ m, gMinA [DK o kv] = some (.int m) ∧ m ∈ ks kv ∧ ∀ k ∈ ks kv, m ≤ k := by
  have ekeys : keysI (en kv) = some (ks kv) := by
    unfold keysI
    rw [en_ks, ints_map]
  obtain ⟨m, hm⟩ : ∃ m, minI (ks kv) = some m := by
    cases kv with
    | nil => exact absurd rfl h
    | cons p r => exact ⟨_, rfl⟩
  refine ⟨m, ?_, minI_ok _ _ hm⟩
  show (keysI (en kv)).bind _ = _
  rw [ekeys, Option.bind_some, hm]; rfl
theorem max_DK (o : Bool) {kv : List (Int × Int)} (h : kv ≠ []) : ∃ m, gMaxA [DK o kv] = some (.int m) ∧ m ∈ ks kv ∧ ∀ k ∈ ks kv, k ≤ m := by
  have ekeys : keysI (en kv) = some (ks kv) := by
    unfold keysI
    rw [en_ks, ints_map]
  obtain ⟨m, hm⟩ : ∃ m, maxI (ks kv) = some m := by
    cases kv with
    | nil => exact absurd rfl h
    | cons p r => exact ⟨_, rfl⟩
  refine ⟨m, ?_, maxI_ok _ _ hm⟩
  show (keysI (en kv)).bind _ = _
  rw [ekeys, Option.bind_some, hm]; rfl
theorem nz_at {kv : List (Int × Int)} {f : Int → Int} {lo hi : Int} {M : Nat} (t : Tb kv f lo hi M) (z : ∀ p ∈ kv, p.2 ≠ 0) {k : Int} (h : k ∈ ks kv) : f k ≠ 0 := z _ (lk_mem (lk_f t h))
theorem nz_in {kv : List (Int × Int)} {f : Int → Int} {lo hi : Int} {M : Nat} (t : Tb kv f lo hi M) {k : Int} (h : f k ≠ 0) : k ∈ ks kv := Classical.byContradiction fun q => h (f_out t q)
theorem ends_Tb {kv : List (Int × Int)} {f : Int → Int} {lo hi : Int} {M : Nat} (t : Tb kv f lo hi M) (z : ∀ p ∈ kv, p.2 ≠ 0) {b m : Int} (hb : b ∈ ks kv) (hb2 : ∀ k ∈ ks kv, b ≤ k) (hm : m ∈ ks kv) (hm2 : ∀ k ∈ ks kv, k ≤ m) : Ends f b m :=
  ⟨hb2 m hm, nz_at t z hb, nz_at t z hm, fun e he => f_out t fun h => by have := hb2 e h; omega, fun e he => f_out t fun h => by have := hm2 e h; omega⟩
abbrev dvP : MS := sAsg (gSt 8 (fOp [] [] gSub (fOp [9] [] gAdd (fVar 9) (fVar 6)) (fVar 4))) (fOp [] [] gSub (fC (.int 0)) (fOp [7] [] gMul (fVar 7) (fOp [1] [] gIxA (fVar 1) (fVar 9))))
abbrev dvB : MS := (sSeq (sIf (fB (fOp [] [] gEq (fCl gLen (fCons [2] [] (fVar 2) fNil)) (fC (.int 0)))) (sRet (fMov 3)) sNil)
    (sSeq (sSet 6 (fCl gMaxA (fCons [2] [] (fVar 2) fNil)))
    (sSeq (sIf (fOr (fB (fOp [] [] gLt (fOp [6] [] gSub (fVar 6) (fVar 4)) (fOp [] [] gSub (fCl gMinA (fCons [0] [] (fVar 0) fNil)) (fCl gMinA (fCons [1] [] (fVar 1) fNil))))) (fB (fOp [] [] gNe (fOp [] [] gMod (fCl gInt (fCons [2] [] (fOp [2] [] gIxA (fVar 2) (fVar 6)) fNil)) (fOp [1] [] gIxA (fVar 1) (fVar 4))) (fC (.int 0))))) (sRet (fC .non)) sNil)
    (sSeq (sSet 7 (fOp [2] [] gDiv (fOp [2] [] gIxA (fVar 2) (fVar 6)) (fOp [1] [] gIxA (fVar 1) (fVar 4))))
    (sSeq (sAsg (gSt 3 (fOp [6] [] gSub (fVar 6) (fVar 4))) (fVar 7))
    (sSeq (sSet 8 fDnew)
    (sSeq (sDk 1 (sFor (iKy 1) (gNm 9) dvP))
    (sSet 2 (fCall F__law_plus (fCons [2] [] (fVar 2) (fCons [8] [] (fVar 8) fNil)))))))))))
theorem len_DK (kv : List (Int × Int)) : gLen [DK true kv] = some (.int (kv.length : Int)) := by
  show some (D.int ((en kv).length : Int)) = _
  rw [show (en kv).length = kv.length from List.length_map ..]
theorem dv_loop {k1 k2 : List (Int × Int)} {f g : Int → Int} {lo hi : Int} {mn1 mn2 top : Int} (t2 : Tb k2 g (-50) 50 (2 ^ 100)) (z2 : ∀ p ∈ k2, p.2 ≠ 0) (g1 : gMinA [DK false k1] = some (.int mn1)) (g2 : gMinA [DK false k2] = some (.int mn2)) (en2 : Ends g mn2 top)
    (hlo : -50 ≤ lo) (hhi : hi ≤ 50) (hmn1 : lo ≤ mn1 ∧ mn1 ≤ 50) (hmn2 : mn2 ∈ ks k2) (htop : top ∈ ks k2) :
    ∀ (its : List D) (left fd : List (Int × Int)) (L H : Int → Int) (w : Int) (k : Nat) (x5 x6 x7 x8 x9 : Option D), mn1 - mn2 + top ≤ w → w < mn1 - mn2 + top + (its.length : Nat) →
    Tb left L lo hi (2 ^ k) → (∀ p ∈ left, p.2 ≠ 0) → (∀ e ∈ ks left, e < w) → Tb fd H (-200) 200 (2 ^ 30000) → (∀ e, e + top < w → H e = 0) → (∀ e, f e = L e + mul H g e) → (∀ e, e < mn1 → L e = 0) → k + 101 * its.length ≤ 30000 →
    ∃ r ρ, forL (gNm 5) dvB its [some (DK false k1), some (DK false k2), some (DK true left), some (DK true fd), some (.int top), x5, x6, x7, x8, x9] = some (.rt r ρ) ∧ ((r = .non ∧ ¬ Has f g) ∨ ∃ fd' H', r = DK true fd' ∧ Tb fd' H' (-200) 200 (2 ^ 30000) ∧ ∀ e, mul H' g e = f e)
  | [], left, fd, L, H, w, k, x5, x6, x7, x8, x9, h1, h2, _, _, _, _, _, _, _, _ => by simp at h2; omega
  | d :: its, left, fd, L, H, w, k, x5, x6, x7, x8, x9, h1, h2, tl, zl, hw, tf, hH, hL, hlow, hk => by
    rw [List.length_cons] at h2 hk
    have btop := ks_bd t2 htop
    have bmn2 := ks_bd t2 hmn2
    have Hs : In9 H := fun e he => f_out tf fun h => by have := ks_bd tf h; omega
    have el := len_DK left
    cases hleft : left with
    | nil =>
      subst hleft
      refine ⟨DK true fd, [some (DK false k1), some (DK false k2), some (DK true []), none, some (.int top), some d, x6, x7, x8, x9], ?_, .inr ⟨fd, H, rfl, tf, fun e => ?_⟩⟩
      rotate_left
      · have := f_out tl (k := e) (by simp [ks])
        rw [hL, this, Int.zero_add]
      · have e0 : (DK true []).noOwn = false := rfl
        rw [forL]
        simp [el]
    | cons p0 r0 =>
      rw [← hleft]
      have hne : left ≠ [] := by rw [hleft]; simp
      obtain ⟨place, m1, m2, m3⟩ := max_DK true hne
      have bp := ks_bd tl m2
      have hpw := hw place m2
      have zup : ∀ e, place - top + top < e → L e = 0 := fun e he => f_out tl fun h => by have := m3 e h; omega
      have hlen : (left.length : Int) ≠ 0 := by
        have := List.length_pos_iff.mpr hne
        omega
      have hlen2 : ¬ left = [] := hne
      have gl : gIxA (DK true left) (.int place) = some (.int (L place)) := DK_get (lk_f tl m2)
      have gt : gIxA (DK false k2) (.int top) = some (.int (g top)) := DK_get (lk_f t2 htop)
      have hgt : g top ≠ 0 := en2.t0
      have e2 : gMod (.int (L place)) (.int (g top)) = some (.int ((L place).fmod (g top))) := gMod_i hgt
      have e3 : gDiv (.int (L place)) (.int (g top)) = some (.int ((L place).fdiv (g top))) := gDiv_L hgt (Nat.lt_of_le_of_lt (t2.abs top) (Nat.pow_lt_pow_right (by decide) (by decide)))
      have nodiv : ∀ {P : Prop}, (¬ P → Has f g → False) → (P ∨ ¬ Has f g) := fun {P} h => by
        by_cases q : P
        · exact .inl q
        · exact .inr fun z => h q z
      by_cases hb : place - top < mn1 - mn2
      · refine ⟨.non, [some (DK false k1), some (DK false k2), some (DK true left), some (DK true fd), some (.int top), some d, some (.int place), x7, x8, x9], ?_, .inl ⟨rfl, ?_⟩⟩
        rotate_left
        · rintro ⟨h, hs, hf⟩
          have ds := (div_step (L := L) (T := place - top) en2 hs Hs hf hL (by omega) (by omega) zup).2
          have dl := div_low (L := L) (B := mn1 - mn2) en2 hs Hs hf hL (by omega) (fun e he => hlow e (by omega)) (place - top) hb
          rw [dl, show place - top + top = place by omega] at ds
          have := nz_at tl zl m2
          rw [ds] at this
          simp at this
        · rw [forL]
          simp [el, hlen2, m1, g1, g2, hb]
      · by_cases hd : (L place).fmod (g top) = 0
        · obtain ⟨q, hq⟩ : ∃ q, q = (L place).fdiv (g top) := ⟨_, rfl⟩
          rw [← hq] at e3
          have hmq : L place = g top * q := by
            have := Int.fmod_add_mul_fdiv (L place) (g top)
            rw [hd, ← hq] at this
            omega
          have hqb : q.natAbs ≤ 2 ^ k := by
            refine Nat.le_trans ?_ (tl.abs place)
            rw [hmq, Int.natAbs_mul]
            exact Nat.le_mul_of_pos_left _ (by omega)
          have hk2 : 2 ^ k + 2 ^ k * 2 ^ 100 ≤ 2 ^ (k + 101) := by
            rw [Nat.pow_add]
            have : 2 ^ k * 1 + 2 ^ k * 2 ^ 100 ≤ 2 ^ k * 2 ^ 101 := by
              rw [← Nat.mul_add]
              exact Nat.mul_le_mul_left _ (by decide)
            omega
          have hmul : ∀ s : Int, s.natAbs ≤ 2 ^ 100 → gMul (.int q) (.int s) = some (.int (q * s)) := fun s hs => gMul_i (by
            unfold cMul bitsOk
            rw [decide_eq_true (show q.natAbs < 2 ^ 400000 from Nat.lt_of_le_of_lt hqb (Nat.pow_lt_pow_right (by decide) (by omega))), decide_eq_true (show s.natAbs < 2 ^ 400000 from Nat.lt_of_le_of_lt hs (Nat.pow_lt_pow_right (by decide) (by decide)))]
            simp)
          have bpl : ∀ j ∈ ks k2, mn2 ≤ j ∧ j ≤ top := fun j hj => by
            have := nz_at t2 z2 hj
            constructor
            · exact Classical.byContradiction fun z => this (en2.lo j (by omega))
            · exact Classical.byContradiction fun z => this (en2.hi j (by omega))
          have tf' := tf.put (k := place - top) (v := q) ⟨by omega, by omega, Nat.le_trans hqb (pow_le2 (by omega))⟩
          obtain ⟨part, y9, gp, h3, tp, hgp⟩ := put_loop 9 dvP (fun a x => [some (DK false k1), some (DK false k2), some (DK true left), some (DK true (pt fd (place - top) q)), some (.int top), some d, some (.int place), some (.int q), some (DK true a), x]) (fun j => j + place - top) (fun j => 0 - q * g j) lo hi (2 ^ k * 2 ^ 100) (by omega) (ks k2) [] _ x9 (Tb.nil _ _ _) (fun j hj a x hl => by
            have e4 := DK_get (o := false) (lk_f t2 hj)
            have e5 := hmul (g j) (t2.abs j)
            have e6 := DK_set (kv := a) (j + place - top) (-(q * g j)) hl
            simp [e4, e5, e6]) (fun j hj => by
            have := bpl j hj
            refine ⟨by omega, by omega, ?_⟩
            rw [Int.zero_sub, Int.natAbs_neg, Int.natAbs_mul]
            exact Nat.mul_le_mul hqb (t2.abs j))
          have hgp : ∀ e, gp e = - (q * g (e - (place - top))) := fun e => by
            rcases hgp e with ⟨a, b⟩ | ⟨j, hj, a, b⟩
            · rw [b, f_out t2 fun h => a _ h (by omega)]
              simp
            · rw [b, show e - (place - top) = j by omega]
              omega
          obtain ⟨nw, h4, tn, zn⟩ := lplus_ok (o := false) (o' := false) tl tp (by omega)
          have tn := tn.wide (Int.le_refl _) (Int.le_refl _) hk2
          have hn0 : ∀ e, L e + gp e = L e - q * g (e - (place - top)) := fun e => by rw [hgp]; omega
          obtain ⟨r, ρ, h5, h6⟩ := dv_loop (k1 := k1) t2 z2 g1 g2 en2 hlo hhi hmn1 hmn2 htop its nw (pt fd (place - top) q) _ _ place (k + 101) (some d) (some (.int place)) (some (.int q)) (some (DK true part)) y9 (by omega) (by omega) tn zn (fun e he => by
              refine Classical.byContradiction fun z => nz_at tn zn he ?_
              show L e + gp e = 0
              rw [hn0]
              by_cases q1 : e = place
              · rw [q1, show place - (place - top) = top by omega, hmq, Int.mul_comm]; omega
              · rw [zup e (by omega), en2.hi _ (by omega)]; simp) tf' (fun e he => by
              show (if e = place - top then q else H e) = 0
              rw [if_neg (by omega)]
              exact hH e (by omega)) (fun e => by
              have a1 : (fun e => if e = place - top then q else H e) = fun e => (if e = place - top then q else 0) + H e := funext fun e => by
                by_cases z : e = place - top
                · rw [if_pos z, if_pos z, hH e (by omega)]; omega
                · rw [if_neg z, if_neg z]; omega
              show f e = L e + gp e + _
              rw [a1, mul_add, mul_one_ _ (by omega) (by omega), hL, hn0]
              omega) (fun e he => by
              show L e + gp e = 0
              rw [hn0, hlow e he, en2.lo _ (by omega)]
              simp) (by omega)
          refine ⟨r, ρ, ?_, h6⟩
          have e7 := DK_set (kv := fd) (place - top) q (by have := tf.len; omega)
          have e0 : (.dct true false [] : D) = DK true [] := rfl
          have q2 : fzSlot 1 [some (DK false k1), some (DK false k2), some (DK true left), some (DK true (pt fd (place - top) q)), some (.int top), some d, some (.int place), some (.int q), some (DK true []), x9] = some [some (DK false k1), some (DK false k2), some (DK true left), some (DK true (pt fd (place - top) q)), some (.int top), some d, some (.int place), some (.int q), some (DK true []), x9] := fz_DK false k2 _ 1 rfl
          have q3 := keys_DK false k2 [some (DK false k1), some (DK false k2), some (DK true left), some (DK true (pt fd (place - top) q)), some (.int top), some d, some (.int place), some (.int q), some (DK true []), x9] 1 rfl
          have st : forL (gNm 5) dvB (d :: its) [some (DK false k1), some (DK false k2), some (DK true left), some (DK true fd), some (.int top), x5, x6, x7, x8, x9] = forL (gNm 5) dvB its [some (DK false k1), some (DK false k2), some (DK true nw), some (DK true (pt fd (place - top) q)), some (.int top), some d, some (.int place), some (.int q), some (DK true part), y9] := by
            rw [forL]
            simp [-iKy_r, el, hlen2, m1, g1, g2, hb, gl, gt, e2, e3, hd, e7, e0, q2, q3, h3, h4]
          rw [st]
          exact h5
        · refine ⟨.non, [some (DK false k1), some (DK false k2), some (DK true left), some (DK true fd), some (.int top), some d, some (.int place), x7, x8, x9], ?_, .inl ⟨rfl, ?_⟩⟩
          rotate_left
          · rintro ⟨h, hs, hf⟩
            have ds := (div_step (L := L) (T := place - top) en2 hs Hs hf hL (by omega) (by omega) zup).2
            rw [show place - top + top = place by omega] at ds
            rw [ds] at hd
            exact hd (Int.mul_fmod_left _ _)
          · rw [forL]
            simp [el, hlen2, m1, g1, g2, hb, gl, gt, e2, hd]
end G02

namespace G02
open PySem PySem.Spec PyProof.Rows L2 Vl
theorem ldivided_ok {k1 k2 : List (Int × Int)} {f g : Int → Int} {lo hi : Int} (t1 : Tb k1 f lo hi (2 ^ 1000)) (z1 : ∀ p ∈ k1, p.2 ≠ 0) (n1 : k1 ≠ []) (t2 : Tb k2 g (-50) 50 (2 ^ 100)) (z2 : ∀ p ∈ k2, p.2 ≠ 0) (n2 : k2 ≠ []) (hlo : -50 ≤ lo) (hhi : hi ≤ 50) (hl : hi - lo < 60) :
    ∃ r, F__law_divided [DK false k1, DK false k2] = some (r, []) ∧ ((r = .non ∧ ¬ Has f g) ∨ ∃ fd' H', r = DK true fd' ∧ Tb fd' H' (-200) 200 (2 ^ 30000) ∧ ∀ e, mul H' g e = f e) := by
  obtain ⟨mn1, a1, a2, a3⟩ := min_DK false n1
  obtain ⟨mn2, b1, b2, b3⟩ := min_DK false n2
  obtain ⟨top, c1, c2, c3⟩ := max_DK false n2
  have en2 := ends_Tb t2 z2 b2 b3 c2 c3
  have bm1 := ks_bd t1 a2
  have bm2 := b3 top c2
  have itl : (rgItems 0 60).length = 60 := rgItems_length ..
  obtain ⟨w, hw⟩ : ∃ w, w = if hi ≤ mn1 - mn2 + top then mn1 - mn2 + top else hi := ⟨_, rfl⟩
  have w1 : mn1 - mn2 + top ≤ w ∧ hi ≤ w ∧ w < mn1 - mn2 + top + 60 := by rw [hw]; split <;> omega
  obtain ⟨r, ρ, h1, h2⟩ := dv_loop t2 z2 a1 b1 en2 hlo hhi ⟨bm1.1, by omega⟩ b2 c2 (rgItems 0 60) k1 [] f (fun _ => 0) w 1000 none none none none none (by omega) (by omega) t1 z1 (fun e he => by have := ks_bd t1 he; omega) (Tb.nil _ _ _) (fun _ _ => rfl) (fun e => by rw [mul_zero, Int.add_zero]) (fun e he => f_out t1 fun h => by have := a3 e h; omega) (by omega)
  refine ⟨r, ?_, h2⟩
  have q1 := dict_DK false k1
  have e0 : (.dct true false [] : D) = DK true [] := rfl
  have ek : okR (60 : Int) = true := rfl
  unfold F__law_divided runF
  simp [outs, q1, e0, c1, ek, h1]
/-! ### the letter exchanged for a power of it -/
def sp (s : Int) (f : Int → Int) (e : Int) : Int := if e % s = 0 then f (e / s) else 0
theorem coef_app (l : Int) (ns : List Int) (n e : Int) : coef l (ns ++ [n]) e = coef l ns e + if e = l + (ns.length : Nat) then n else 0 := by
  by_cases h : e = l + (ns.length : Nat)
  · rw [if_pos h, h, coef_out (ns := ns) (.inr (by omega)), coef_at (by simp)]
    simp
  · rw [if_neg h, Int.add_zero]
    unfold coef
    split
    · by_cases q : (e - l).toNat < ns.length
      · rw [List.getElem?_append_left q]
      · rw [List.getElem?_eq_none (by simp; omega), List.getElem?_eq_none (by omega)]
    · rfl
theorem sp_app (s : Int) (hs : s ≠ 0) (l : Int) (ns : List Int) (n e : Int) : sp s (coef l (ns ++ [n])) e = if e = (l + (ns.length : Nat)) * s then n else sp s (coef l ns) e := by
  unfold sp
  by_cases h : e = (l + (ns.length : Nat)) * s
  · rw [if_pos h, h, Int.mul_emod_left, if_pos rfl, Int.mul_ediv_cancel _ hs, coef_app, if_pos rfl, coef_out (.inr (by omega))]
    omega
  · rw [if_neg h]
    by_cases q : e % s = 0
    · rw [if_pos q, if_pos q, coef_app, if_neg, Int.add_zero]
      intro z
      apply h
      rw [← z]
      exact (Int.ediv_mul_cancel (Int.dvd_of_emod_eq_zero q)).symm
    · rw [if_neg q, if_neg q]
abbrev spB : MS := sAsg (gSt 2 (fOp [] [] gMul (fOp [0] [] gAdd (fOp [0] [] gIxA (fVar 0) (fC (.int 0))) (fVar 3)) (fVar 1))) (fVar 4)
theorem mul_in (a s : Int) (ha : -50 ≤ a ∧ a ≤ 50) (hs : -4 ≤ s ∧ s ≤ 4) : -200 ≤ a * s ∧ a * s ≤ 200 := by
  have : (a * s).natAbs ≤ 50 * 4 := by
    rw [Int.natAbs_mul]
    exact Nat.mul_le_mul (by omega) (by omega)
  omega
theorem sp_loop (l : Int) (ns : List Int) (s : Int) (hs : s ≠ 0) (hs4 : -4 ≤ s ∧ s ≤ 4) (hl : -50 ≤ l ∧ l + (ns.length : Nat) ≤ 50) (M : Nat) (hM : ∀ n ∈ ns, n.natAbs ≤ M) : ∀ (rest pre : List Int) (kv : List (Int × Int)) (x3 x4 : Option D), pre ++ rest = ns → Tb kv (sp s (coef l pre)) (-300) 300 M →
    ∃ kv' y3 y4, forL (gTp 2 (gsCons (gNm 3) (gsCons (gNm 4) gsNil))) spB (enumD pre.length (rest.map .int)) [some (P l ns), some (.int s), some (DK true kv), x3, x4] = some (.nx [some (P l ns), some (.int s), some (DK true kv'), y3, y4]) ∧ Tb kv' (sp s (coef l ns)) (-300) 300 M
  | [], pre, kv, x3, x4, h, t => ⟨kv, x3, x4, rfl, by rw [← h, List.append_nil]; exact t⟩
  | n :: r, pre, kv, x3, x4, h, t => by
    have hlen : ns.length = pre.length + (r.length + 1) := by rw [← h]; simp
    have bd := mul_in (l + (pre.length : Nat)) s (by omega) hs4
    have t2 := t.put (k := (l + (pre.length : Nat)) * s) (v := n) ⟨by omega, by omega, hM n (by rw [← h]; simp)⟩
    obtain ⟨kv', y3, y4, h1, h2⟩ := sp_loop l ns s hs hs4 hl M hM r (pre ++ [n]) (pt kv ((l + (pre.length : Nat)) * s) n) (some (.int (pre.length : Nat))) (some (.int n)) (by rw [← h]; simp) (t2.congr fun e => (sp_app s hs l pre n e).symm)
    refine ⟨kv', y3, y4, ?_, h2⟩
    have e1 : gMul (.int (l + (pre.length : Nat))) (.int s) = some (.int ((l + (pre.length : Nat)) * s)) := gMul_i (cMul_r (by omega))
    have e2 := DK_set (kv := kv) ((l + (pre.length : Nat)) * s) n (by have := t.len; omega)
    rw [List.length_append] at h1
    rw [List.map_cons]
    unfold enumD forL
    simp [e1, e2]
    exact h1
theorem spread_ok {d : D} {f : Int → Int} {B : Nat} (h : IsP d f (-50) 50 B) (s : Int) (hs : s ≠ 0) (hs4 : -4 ≤ s ∧ s ≤ 4) : ∃ r, F_spread [d, .int s] = some (r, []) ∧ IsP r (sp s f) (-300) 300 B := by
  obtain ⟨l, ns, rfl, n1, c1, s1, z1⟩ := h
  have q : -50 ≤ l ∧ l + (ns.length : Nat) ≤ 50 := by
    rcases s1 with ⟨q, q2⟩ | q
    · rw [q, q2]; simp
    · exact q
  obtain ⟨kv, y3, y4, h1, t1⟩ := sp_loop l ns s hs hs4 q B z1 ns [] [] none none rfl ((Tb.nil _ _ _).congr fun e => by
    unfold sp
    split
    · rw [coef_out (by simp; omega)]
    · rfl)
  rw [funext c1] at t1
  obtain ⟨r, h2, p2⟩ := fin_ t1 (by decide) (by decide)
  refine ⟨r, ?_, p2⟩
  have e0 : (.dct true false [] : D) = DK true [] := rfl
  have f2 := p2.fz
  simp only [List.length_nil] at h1
  unfold F_spread runF
  simp [outs, e0, h1, h2, f2]
/-! ### a unit -/
def us (a : Int) : Int := 1 - 2 * (if a < 0 then 1 else 0)
theorem unit_ok (l a : Int) (ns : List Int) (hns : ns[0]? = some a) (ha : a ≠ 0) (hl : ns.length ≤ 1000) : F_unit_free [P l ns] = some (P 0 (ns.map fun n => us a * n), []) := by
  have e1 : ¬ (l = 0 ∧ ns = []) := fun h => by rw [h.2] at hns; cases hns
  have i1 : gIxA (.tup (ns.map .int)) (.int 0) = some (.int a) := atI_i (ns := ns) (k := 0) hns
  have g1 : gIxA (P l ns) (.int 1) = some (.tup (ns.map .int)) := rfl
  by_cases h : 0 < a
  · have u1 : ns.map (fun n => us a * n) = ns := by
      have : us a = 1 := by unfold us; rw [if_neg (by omega)]; rfl
      rw [this]
      simp
    rw [u1]
    have n1 := t_no ns
    unfold F_unit_free runF
    simp [-P_1, outs, e1, g1, i1, h, szOk, n1]
    rfl
  · have u1 : ns.map (fun n => us a * n) = ns.map (fun n => -n) := by
      have : us a = -1 := by unfold us; rw [if_pos (by omega)]; rfl
      rw [this]
      simp
    rw [u1]
    have hc : fComp [1] (iSeq (fOp [0] [] gIxA (fVar 0) (fC (.int 1)))) (gNm 1) fYes (fUn gNeg (fVar 1)) [some (P l ns), none] = some (.lst true ((ns.map fun n => -n).map .int), [some (P l ns), none]) := by
      rw [← map_int (fun d => match d with | .int i => .int (-i) | d => d) (fun n => -n) fun i => rfl]
      have it := items_t ns
      refine fComp_all _ (by simp [-P_1, g1, it]) (by simp [ownOk]) (fun d hd => ?_) (by simp; omega)
      obtain ⟨k, _, rfl⟩ := List.mem_map.mp hd
      simp
    have g2 := gTuple_l true (ns.map fun n => -n)
    unfold F_unit_free runF
    simp [-List.map_map, -P_1, -fComp_r, outs, e1, g1, i1, h, szOk, hc, g2]
    rfl
/-! ### the value at 1, -1 -/
def hn (x : Int) : List Int → Int
  | [] => 0
  | n :: r => hn x r * x + n
abbrev vaB : MS := (sSet 2 (fOp [] [] gAdd (fOp [2] [] gMul (fVar 2) (fVar 1)) (fVar 3)))
theorem va_loop (A : Option D) (x : Int) (hx : x = 1 ∨ x = -1) : ∀ (ms : List Int) (v : Int) (x3 : Option D), ∃ y3, forL (gNm 3) vaB (ms.map .int) [A, some (.int x), some (.int v), x3] = some (.nx [A, some (.int x), some (.int (ms.foldl (fun v n => v * x + n) v)), y3])
  | [], v, x3 => ⟨x3, rfl⟩
  | n :: r, v, x3 => by
    obtain ⟨y3, h⟩ := va_loop A x hx r (v * x + n) (some (.int n))
    refine ⟨y3, ?_⟩
    have e1 : gMul (.int v) (.int x) = some (.int (v * x)) := gMul_i (cMul_r (by omega))
    rw [List.map_cons]
    unfold forL
    simp [e1]
    exact h
theorem hn_rev (x : Int) : ∀ ns : List Int, ns.reverse.foldl (fun v n => v * x + n) 0 = hn x ns
  | [] => rfl
  | n :: r => by
    rw [List.reverse_cons, List.foldl_append, hn_rev x r]
    rfl
theorem value_ok (l : Int) (ns : List Int) (x : Int) (hx : x = 1 ∨ x = -1) : F_value_at [P l ns, .int x] = some (.int (if l.fmod 2 ≠ 0 ∧ x = -1 then -(hn x ns) else hn x ns), []) := by
  obtain ⟨y3, h⟩ := va_loop (some (P l ns)) x hx ns.reverse 0 none
  rw [hn_rev, List.map_reverse] at h
  have e1 : gMod (.int l) (.int 2) = some (.int (l.fmod 2)) := gMod_i (by decide)
  by_cases h1 : l.fmod 2 = 0
  · unfold F_value_at runF
    simp [outs, h, e1, h1]
  · by_cases h2 : x = -1
    · rw [if_pos ⟨h1, h2⟩]
      subst h2
      unfold F_value_at runF
      simp [outs, h, e1, h1]
    · rw [if_neg fun q => h2 q.2]
      unfold F_value_at runF
      simp [outs, h, e1, h1, h2]
/-- what the law weighs a number at an exponent with -/
def wt (x k : Int) : Int := if k.fmod 2 = 0 then 1 else x
theorem wt_succ {x : Int} (hx : x = 1 ∨ x = -1) (k : Int) : wt x (k + 1) = x * wt x k := by
  unfold wt
  rw [Int.fmod_eq_emod_of_nonneg _ (by decide), Int.fmod_eq_emod_of_nonneg _ (by decide)]
  by_cases h : k % 2 = 0
  · rw [if_pos h, if_neg (by omega)]; omega
  · rw [if_neg h, if_pos (by omega)]
    rcases hx with rfl | rfl <;> rfl
theorem cv_wt {x : Int} (hx : x = 1 ∨ x = -1) : ∀ (ns : List Int) (l : Int), cv l ns (fun e => wt x (-e)) 0 = wt x l * hn x ns
  | [], l => by show (0 : Int) = _ * 0; omega
  | n :: r, l => by
    show n * wt x (-(0 - l)) + cv (l + 1) r (fun e => wt x (-e)) 0 = wt x l * (hn x r * x + n)
    rw [cv_wt hx r (l + 1), wt_succ hx, show -(0 - l) = l by omega, Int.mul_add, Int.mul_comm n, Int.add_comm]
    congr 1
    rw [Int.mul_comm x, Int.mul_assoc, Int.mul_comm x]
theorem wt_val {x : Int} (hx : x = 1 ∨ x = -1) (l : Int) (ns : List Int) : (if l.fmod 2 ≠ 0 ∧ x = -1 then -(hn x ns) else hn x ns) = wt x l * hn x ns := by
  unfold wt
  by_cases h : l.fmod 2 = 0
  · rw [if_neg fun q => q.1 h, if_pos h, Int.one_mul]
  · rw [if_neg h]
    rcases hx with rfl | rfl
    · rw [if_neg fun q => absurd q.2 (by decide), Int.one_mul]
    · rw [if_pos ⟨h, rfl⟩]; omega
/-! ### a palindrome -/
theorem pyEq_t (ns ns' : List Int) : pyEq (.tup (ns.map .int)) (.tup (ns'.map .int)) = decide (ns = ns') := by
  unfold pyEq
  simp only [D.toP, PyData.eqv, eqvAll_ints]
theorem eqOk_t (ns : List Int) : eqOk (.tup (ns.map .int)) = true := by
  have h := depL_ints ns
  unfold eqOk
  simp [D.eok, eokL_ints, D.dep]
  try omega
theorem gEq_t (ns ns' : List Int) : gEq (.tup (ns.map .int)) (.tup (ns'.map .int)) = some (.bl (decide (ns = ns'))) := by
  unfold gEq
  rw [eqOk_t, eqOk_t, pyEq_t]
  rfl
theorem palin_ok (l : Int) (ns : List Int) : F_is_palindrome [P l ns] = some (.bl (decide (ns = ns.reverse)), []) := by
  have e1 := gEq_t ns ns.reverse
  have e2 : itemsOf (.tup (ns.map .int)) = some (ns.map .int) := items_t ns
  rw [List.map_reverse] at e1
  unfold F_is_palindrome runF
  simp [-List.map_reverse, outs, e2, e1]
end G02

namespace G02
open PySem PySem.Spec PyProof.Rows L2 Vl
def dl0 (c : Int) : Int → Int := fun e => if e = 0 then c else 0
def itM (g : Int → Int) : Nat → (Int → Int) → Int → Int
  | 0, f => f
  | n + 1, f => itM g n (mul f g)
theorem itM_add (g : Int → Int) : ∀ (n : Nat) (a b : Int → Int) (e : Int), itM g n (fun k => a k + b k) e = itM g n a e + itM g n b e
  | 0, _, _, _ => rfl
  | n + 1, a, b, e => by
    show itM g n (mul (fun k => a k + b k) g) e = itM g n (mul a g) e + itM g n (mul b g) e
    rw [funext (mul_add a b g), itM_add g n]
theorem itM_zero (g : Int → Int) : ∀ (n : Nat) (e : Int), itM g n (fun _ => 0) e = 0
  | 0, _ => rfl
  | n + 1, e => by
    show itM g n (mul (fun _ => 0) g) e = 0
    rw [funext (mul_zero g), itM_zero g n]
theorem itM_out (g : Int → Int) : ∀ (n : Nat) (f : Int → Int), itM g (n + 1) f = mul (itM g n f) g
  | 0, _ => rfl
  | n + 1, f => by
    show itM g (n + 1) (mul f g) = mul (itM g n (mul f g)) g
    rw [itM_out g n]
def sF (g : Int → Int) (cf : Nat → Int) : Nat → Int → Int
  | 0 => fun _ => 0
  | n + 1 => fun e => sF g cf n e + itM g n (dl0 (cf n)) e
def cpF (g : Int → Int) (cf : Nat → Int) : Nat → (Int → Int) → Int → Int
  | 0, f => f
  | p + 1, f => cpF g cf p (fun e => mul f g e + dl0 (cf p) e)
theorem cpF_eq (g : Int → Int) (cf : Nat → Int) : ∀ (p : Nat) (f : Int → Int) (e : Int), cpF g cf p f e = itM g p f e + sF g cf p e
  | 0, f, e => by show f e = f e + 0; omega
  | p + 1, f, e => by
    show cpF g cf p (fun e => mul f g e + dl0 (cf p) e) e = itM g p (mul f g) e + (sF g cf p e + itM g p (dl0 (cf p)) e)
    rw [cpF_eq g cf p, itM_add]
    omega
theorem sF_zero (g : Int → Int) (cf : Nat → Int) : ∀ (n : Nat), (∀ k, k < n → cf k = 0) → ∀ e, sF g cf n e = 0
  | 0, _, _ => rfl
  | n + 1, h, e => by
    show sF g cf n e + itM g n (dl0 (cf n)) e = 0
    have : dl0 (cf n) = fun _ => 0 := funext fun e => by unfold dl0; rw [h n (by omega)]; split <;> rfl
    rw [sF_zero g cf n (fun k hk => h k (by omega)) e, this, itM_zero]
    rfl
abbrev cpB : MS := (sSet 2 (fCall F_plus (fCons [] [] (fCall F_times (fCons [2] [] (fVar 2) (fCons [1] [] (fVar 1) fNil))) (fCons [] [] (fCall F_single (fCons [] [] (fCall F_coefficient (fCons [0] [] (fVar 0) (fCons [3] [] (fVar 3) fNil))) (fCons [] [] (fC (.int 0)) fNil))) fNil))))
theorem pw_lt {a : Nat} (h : a < 400000) : 2 ^ a < 2 ^ 400000 := Nat.pow_lt_pow_right (by decide) h
theorem cp_loop (hh : Int) (ns : List Int) {d' : D} {g : Int → Int} (hg : IsP d' g (-10) 20 (2 ^ 100)) (cb : ∀ e, (coef hh ns e).natAbs ≤ 2 ^ 100) : ∀ (p j : Nat) (r : D) (f : Int → Int) (x3 : Option D), j + p ≤ 20 → IsP r f (-10 * (j : Nat)) (20 * (j : Nat) + 1) (2 ^ (120 * j)) →
    ∃ r' y3, forL (gNm 3) cpB (rgDown ((p : Int) - 1) p) [some (P hh ns), some d', some r, x3] = some (.nx [some (P hh ns), some d', some r', y3]) ∧ IsP r' (cpF g (fun k => coef hh ns (k : Nat)) p f) (-10 * ((j + p : Nat) : Int)) (20 * ((j + p : Nat) : Int) + 1) (2 ^ (120 * (j + p)))
  | 0, j, r, f, x3, _, h => ⟨r, x3, rfl, h⟩
  | p + 1, j, r, f, x3, hj, h => by
    have ep : ((p + 1 : Nat) : Int) - 1 = (p : Nat) := by omega
    obtain ⟨r1, h1, p1⟩ := times_ok2 h hg (by omega) (by omega) (by omega) (by omega) (pw_lt (by omega)) (pw_lt (by omega))
    obtain ⟨r2, h2, p2⟩ := single_ok (coef hh ns (p : Nat)) 0 (2 ^ 100) (cb _)
    have p1 := p1.wide (lo' := -10 * ((j + 1 : Nat) : Int)) (hi' := 20 * ((j + 1 : Nat) : Int) + 1) (by omega) (by omega) (Nat.le_refl _)
    have p2 := p2.wide (lo' := -10 * ((j + 1 : Nat) : Int)) (hi' := 20 * ((j + 1 : Nat) : Int) + 1) (by omega) (by omega) (Nat.le_refl _)
    obtain ⟨r3, h3, p3⟩ := plus_ok p1 p2 (by omega) (by omega)
    have hB : 20000 * (2 ^ (120 * j) * 2 ^ 100) + 2 ^ 100 ≤ 2 ^ (120 * (j + 1)) := by
      have e1 : 2 ^ (120 * (j + 1)) = 2 ^ (120 * j) * 2 ^ 120 := by rw [← Nat.pow_add, Nat.mul_add]
      have e2 : 1 ≤ 2 ^ (120 * j) := Nat.one_le_two_pow
      rw [e1]
      have : 20000 * (2 ^ (120 * j) * 2 ^ 100) + 1 * 2 ^ 100 ≤ 2 ^ (120 * j) * (20001 * 2 ^ 100) := by
        have : 1 * 2 ^ 100 ≤ 2 ^ (120 * j) * 2 ^ 100 := Nat.mul_le_mul_right _ e2
        omega
      refine Nat.le_trans (by omega) (Nat.mul_le_mul_left _ (show 20001 * 2 ^ 100 ≤ 2 ^ 120 by decide))
    obtain ⟨r', y3, h4, p4⟩ := cp_loop hh ns hg cb p (j + 1) r3 _ (some (.int (p : Nat))) (by omega) (p3.wide (Int.le_refl _) (Int.le_refl _) hB)
    refine ⟨r', y3, ?_, ?_⟩
    · have c := coefP hh ns (p : Nat)
      rw [ep, rgDown_succ, forL]
      have f1 := p1.fz
      have f2 := p2.fz
      have f3 := p3.fz
      obtain ⟨l2, ns2, rfl, _⟩ := hg
      obtain ⟨l3, ns3, rfl, _⟩ := h
      obtain ⟨l4, ns4, rfl, _⟩ := p1
      obtain ⟨l5, ns5, rfl, _⟩ := p2
      simp [h1, h2, h3, f1, f2, f3, c]
      exact h4
    · rw [show j + (p + 1) = j + 1 + p by omega]
      exact p4
theorem composed_ok (hh : Int) (ns : List Int) {d' : D} {g : Int → Int} (hg : IsP d' g (-10) 20 (2 ^ 100)) (cb : ∀ n ∈ ns, n.natAbs ≤ 2 ^ 100) (h0 : 0 ≤ hh) (hl : hh + (ns.length : Nat) ≤ 20) : ∃ r, F_composed [P hh ns, d'] = some (r, []) ∧ IsP r (sF g (fun k => coef hh ns (k : Nat)) (hh + (ns.length : Nat)).toNat) (-200) 401 (2 ^ 2400) := by
  obtain ⟨p, hp⟩ : ∃ p : Nat, p = (hh + (ns.length : Nat)).toNat := ⟨_, rfl⟩
  have z : IsP (P 0 []) (fun _ => 0) (-10 * ((0 : Nat) : Int)) (20 * ((0 : Nat) : Int) + 1) (2 ^ (120 * 0)) := ⟨0, [], rfl, .inl ⟨rfl, rfl⟩, fun e => coef_out (by simp; omega), .inl ⟨rfl, rfl⟩, fun _ h => (by cases h)⟩
  obtain ⟨r, y3, h1, p1⟩ := cp_loop hh ns hg (coef_bd cb) p 0 (P 0 []) _ none (by omega) z
  refine ⟨r, ?_, (p1.wide (by omega) (by omega) (pow_le2 (by omega))).congr fun e => by rw [cpF_eq, itM_zero, Int.zero_add, hp]⟩
  have ek : okR (hh + (ns.length : Int) - 1) = true := by simp [okR]; omega
  have edn : downOf [.int (hh + (ns.length : Int) - 1), .int (-1), .int (-1)] = some ((p : Int) - 1, p) := by
    show (if (okR _ && okR (-1)) = true then _ else _) = _
    rw [ek]
    show some (hh + (ns.length : Int) - 1, (hh + (ns.length : Int) - 1 - -1).toNat) = _
    rw [show hh + (ns.length : Int) - 1 = (p : Int) - 1 by omega, show ((p : Int) - 1 - -1).toNat = p by omega]
  rw [← zeroP] at h1
  unfold F_composed runF
  simp [outs, edn, h1]
/-! ### the same by the law -/
abbrev cmI : MS := (sSet 19 (fCall F__law_times (fCons [19] [] (fVar 19) (fCons [5] [] (fVar 5) fNil))))
theorem cm_in {k2 : List (Int × Int)} {g : Int → Int} (t2 : Tb k2 g (-10) 20 (2 ^ 100)) (A0 A1 A2 A3 A4 A6 A7 A9 A10 A12 A13 A14 A15 A16 A17 A21 A8 A11 A18 : Option D) : ∀ (its : List D) (j : Nat) (kv : List (Int × Int)) (f : Int → Int) (x20 : Option D), j + its.length ≤ 20 → Tb kv f (-10 * (j : Nat)) (20 * (j : Nat) + 1) (2 ^ (120 * (j + 1))) →
    ∃ kv' y20, forL (gNm 20) cmI its [A0, A1, A2, A3, A4, some (DK true k2), A6, A7, A8, A9, A10, A11, A12, A13, A14, A15, A16, A17, A18, some (DK true kv), x20, A21] = some (.nx [A0, A1, A2, A3, A4, some (DK true k2), A6, A7, A8, A9, A10, A11, A12, A13, A14, A15, A16, A17, A18, some (DK true kv'), y20, A21]) ∧ Tb kv' (itM g its.length f) (-10 * ((j + its.length : Nat) : Int)) (20 * ((j + its.length : Nat) : Int) + 1) (2 ^ (120 * (j + its.length + 1)))
  | [], j, kv, f, x20, _, h => ⟨kv, x20, rfl, h⟩
  | d :: its, j, kv, f, x20, hj, h => by
    rw [List.length_cons] at hj
    obtain ⟨r1, h1, p1, _⟩ := ltimes_ok2 h t2 (by omega) (by omega) (by omega) (by omega) (pw_lt (by omega)) (pw_lt (by omega))
    have hB : 20000 * (2 ^ (120 * (j + 1)) * 2 ^ 100) ≤ 2 ^ (120 * (j + 1 + 1)) := by
      have e1 : 2 ^ (120 * (j + 1 + 1)) = 2 ^ (120 * (j + 1)) * 2 ^ 120 := by rw [← Nat.pow_add]; congr 1
      rw [e1]
      have : 20000 * (2 ^ (120 * (j + 1)) * 2 ^ 100) = 2 ^ (120 * (j + 1)) * (20000 * 2 ^ 100) := by
        generalize 2 ^ (120 * (j + 1)) = z
        omega
      rw [this]
      exact Nat.mul_le_mul_left _ (by decide)
    obtain ⟨kv', y20, h2, p2⟩ := cm_in t2 A0 A1 A2 A3 A4 A6 A7 A9 A10 A12 A13 A14 A15 A16 A17 A21 A8 A11 A18 its (j + 1) r1 _ (some d) (by omega) (p1.wide (by omega) (by omega) hB)
    refine ⟨kv', y20, ?_, ?_⟩
    · rw [forL]
      simp [h1]
      exact h2
    · rw [List.length_cons, show j + (its.length + 1) = j + 1 + its.length by omega]
      exact p2
abbrev cmO : MS := (sSeq (sSet 19 (fDisp (((fC (.int 0)), (chk (fOp [18] [] gIxA (fOp [18] [] gIxA (fVar 18) (fC (.int 1))) (fVar 8)))) :: [])))
    (sSeq (sFor (iRg1 (fCons [] [] (fOp [18] [] gAdd (fOp [18] [] gIxA (fVar 18) (fC (.int 0))) (fVar 8)) fNil)) (gNm 20) cmI)
    (sSet 11 (fCall F__law_plus (fCons [11] [] (fVar 11) (fCons [19] [] (fVar 19) fNil))))))
theorem one_Td (c : Int) (hc : c.natAbs ≤ 2 ^ 100) : Tb [(0, c)] (dl0 c) (-10 * ((0 : Nat) : Int)) (20 * ((0 : Nat) : Int) + 1) (2 ^ (120 * (0 + 1))) := by
  refine ⟨by simp [ks], fun e => ?_, fun p hp => ?_⟩
  · show (if 0 = e then some c else none).getD 0 = if e = 0 then c else 0
    by_cases h : e = 0
    · subst h; rfl
    · rw [if_neg h, if_neg (Ne.symm h)]; rfl
  · rw [List.mem_singleton.mp hp]
    exact ⟨by simp, by simp, Nat.le_trans hc (pow_le2 (by omega))⟩
theorem cm_out {k2 : List (Int × Int)} {g : Int → Int} (t2 : Tb k2 g (-10) 20 (2 ^ 100)) (h : Nat) (ns : List Int) (cb : ∀ n ∈ ns, n.natAbs ≤ 2 ^ 100) (hl : h + ns.length ≤ 20) (A0 A1 A2 A3 A4 A6 A7 A9 A10 A12 A13 A14 A15 A16 A17 A21 : Option D) : ∀ (m j : Nat) (kv : List (Int × Int)) (x8 x19 x20 : Option D), j + m = ns.length → Tb kv (sF g (fun k => coef (h : Nat) ns (k : Nat)) (h + j)) (-210) 420 (2 ^ 2600 * (j + 1)) →
    ∃ kv' y8 y19 y20, forL (gNm 8) cmO ((List.range' j m).map fun k => .int (k : Nat)) [A0, A1, A2, A3, A4, some (DK true k2), A6, A7, x8, A9, A10, some (DK true kv), A12, A13, A14, A15, A16, A17, some (P (h : Nat) ns), x19, x20, A21] = some (.nx [A0, A1, A2, A3, A4, some (DK true k2), A6, A7, y8, A9, A10, some (DK true kv'), A12, A13, A14, A15, A16, A17, some (P (h : Nat) ns), y19, y20, A21]) ∧ Tb kv' (sF g (fun k => coef (h : Nat) ns (k : Nat)) (h + ns.length)) (-210) 420 (2 ^ 2600 * (ns.length + 1))
  | 0, j, kv, x8, x19, x20, hj, t => ⟨kv, x8, x19, x20, rfl, by
    have e : j = ns.length := by omega
    rw [← e]; exact t⟩
  | m + 1, j, kv, x8, x19, x20, hj, t => by
    have hjl : j < ns.length := by omega
    have ea : L2.atI (ns.map D.int) (j : Int) = some (.int ns[j]) := atI_i (List.getElem?_eq_getElem hjl)
    obtain ⟨pt1, y20, h1, t1⟩ := cm_in t2 A0 A1 A2 A3 A4 A6 A7 A9 A10 A12 A13 A14 A15 A16 A17 A21 (some (.int (j : Nat))) (some (DK true kv)) (some (P (h : Nat) ns)) (rgItems 0 (h + j)) 0 [(0, ns[j])] _ x20 (by rw [rgItems_length]; omega) (one_Td ns[j] (cb _ (List.getElem_mem hjl)))
    rw [rgItems_length] at t1
    have t1 := t1.wide (lo' := -210) (hi' := 420) (B' := 2 ^ 2600) (by omega) (by omega) (pow_le2 (by omega))
    obtain ⟨nw, h2, tn, _⟩ := lplus_ok (o := false) (o' := false) t t1 (by decide)
    obtain ⟨kv', y8, y19, y20', h3, t3⟩ := cm_out t2 h ns cb hl A0 A1 A2 A3 A4 A6 A7 A9 A10 A12 A13 A14 A15 A16 A17 A21 m (j + 1) nw (some (.int (j : Nat))) (some (DK true pt1)) y20 (by omega) ((tn.wide (Int.le_refl _) (Int.le_refl _) (show 2 ^ 2600 * (j + 1) + 2 ^ 2600 ≤ 2 ^ 2600 * (j + 1 + 1) from Nat.le_refl _)).congr fun e => by
      have ec : coef (h : Nat) ns ((h + j : Nat) : Int) = ns[j] := by
        rw [show ((h + j : Nat) : Int) = (h : Nat) + (j : Nat) by omega]
        exact coef_at hjl
      show _ + itM g (h + j) (dl0 ns[j]) e = sF g _ (h + j) e + itM g (h + j) (dl0 (coef (h : Nat) ns ((h + j : Nat) : Int))) e
      rw [ec])
    refine ⟨kv', y8, y19, y20', ?_, t3⟩
    have ed : (.dct true false (putD [] (.int 0) (.int ns[j])) : D) = DK true [(0, ns[j])] := rfl
    have ek : okR ((h : Int) + (j : Int)) = true := by simp [okR]; omega
    have en : ((h : Int) + (j : Int)).toNat = h + j := by omega
    rw [List.range'_succ, List.map_cons, forL]
    simp [ea, ed, ek, en, h1, h2, fPairs]
    exact h3
end G02

namespace G02
open PySem PySem.Spec PyProof.Rows L2 Vl
theorem dp_step (A : Option D) (low : Int) (hl : -5 ≤ low ∧ low ≤ 3) (s : D) (kv : List (Int × Int)) (f : Int → Int) (k : Nat) (x5 : Option D) (hs : IsSt s) (t : Tb kv f (-5) 9 B0) (hk : k ≤ 5) :
    ∃ s' kv' f' y5, dpB [some s, A, some (DK true kv), some (.int low), some (.int (k : Nat)), x5] = some (.nx [some s', A, some (DK true kv'), some (.int low), some (.int (k : Nat)), y5]) ∧ IsSt s' ∧ Tb kv' f' (-5) 9 B0 := by
  obtain ⟨r1, s1, e1, h1, a1, b1⟩ := draw s 9 hs (by decide) (by decide)
  obtain ⟨r2, s2, e2, h2, a2, b2⟩ := draw s1 8 h1 (by decide) (by decide)
  have hlen : kv.length ≤ 100000 := by have := t.len; omega
  have hB : B0 = 1000000000000000000000000 := rfl
  by_cases q : r2 = 7
  · obtain ⟨r3, s3, e3, h3, a3, b3⟩ := draw s2 2001 h2 (by decide) (by decide)
    obtain ⟨r4, s4, e4, h4, a4, b4⟩ := draw s3 99 h3 (by decide) (by decide)
    have em : gMul (.int (r3 - 1000)) (.int 100000000000000000000) = some (.int ((r3 - 1000) * 100000000000000000000)) := gMul_i (by unfold cMul; simp; omega)
    have e5 := DK_set (kv := kv) (low + (k : Nat)) ((r3 - 1000) * 100000000000000000000 + r4) hlen
    refine ⟨s4, _, _, some (.int ((r3 - 1000) * 100000000000000000000 + r4)), ?_, h4, t.put (k := low + (k : Nat)) (v := (r3 - 1000) * 100000000000000000000 + r4) ⟨by omega, by omega, by omega⟩⟩
    simp [e1, e2, q, e3, e4, pow20, em, e5]
  · have e5 := DK_set (kv := kv) (low + (k : Nat)) (r1 - 4) hlen
    refine ⟨s2, _, _, some (.int (r1 - 4)), ?_, h2, t.put (k := low + (k : Nat)) (v := r1 - 4) ⟨by omega, by omega, by omega⟩⟩
    simp [e1, e2, q, e5]
theorem dp_loop (A : Option D) (low : Int) (hl : -5 ≤ low ∧ low ≤ 3) : ∀ (its : List D) (s : D) (kv : List (Int × Int)) (f : Int → Int) (x4 x5 : Option D), IsSt s → Tb kv f (-5) 9 B0 → (∀ d ∈ its, ∃ k : Nat, d = .int (k : Nat) ∧ k ≤ 5) →
    ∃ s' kv' f' y4 y5, forL (gNm 4) dpB its [some s, A, some (DK true kv), some (.int low), x4, x5] = some (.nx [some s', A, some (DK true kv'), some (.int low), y4, y5]) ∧ IsSt s' ∧ Tb kv' f' (-5) 9 B0
  | [], s, kv, f, x4, x5, hs, t, _ => ⟨s, kv, f, x4, x5, rfl, hs, t⟩
  | d :: r, s, kv, f, x4, x5, hs, t, hk => by
    obtain ⟨k, rfl, hk8⟩ := hk d List.mem_cons_self
    obtain ⟨s1, kv1, f1, y, e1, h1, t1⟩ := dp_step A low hl s kv f k x5 hs t hk8
    obtain ⟨s2, kv2, f2, y4, y5, e2, h2, t2⟩ := dp_loop A low hl r s1 kv1 f1 (some (.int (k : Nat))) y h1 t1 fun d hd => hk d (List.mem_cons_of_mem _ hd)
    refine ⟨s2, kv2, f2, y4, y5, ?_, h2, t2⟩
    unfold forL
    rw [show gNm 4 (.int (k : Nat)) [some s, A, some (DK true kv), some (.int low), x4, x5] = some [some s, A, some (DK true kv), some (.int low), some (.int (k : Nat)), x5] from rfl, Option.bind_some, e1, Option.bind_some]
    exact e2
theorem drawn_ok (s : D) (hs : IsSt s) (most : Int) (hm : 1 ≤ most ∧ most ≤ 6) : ∃ s' d f, F__law_drawn_poly [s, .int most] = some (d, [s']) ∧ IsSt s' ∧ IsP d f (-5) 9 B0 := by
  obtain ⟨r1, s1, e1, h1, a1, b1⟩ := draw s 9 hs (by decide) (by decide)
  obtain ⟨r2, s2, e2, h2, a2, b2⟩ := draw s1 (most + 1) h1 (by omega) (by omega)
  obtain ⟨s3, kv, f, y4, y5, e3, h3, t3⟩ := dp_loop (some (.int most)) (r1 - 5) (by omega) (rgItems 0 r2.toNat) s2 [] _ none none h2 (Tb.nil _ _ _) fun d hd => by
    unfold rgItems at hd
    obtain ⟨k, hk, rfl⟩ := List.mem_map.mp hd
    have := List.mem_range.mp hk
    exact ⟨k, by rw [Int.zero_add], by omega⟩
  obtain ⟨d, e4, p4⟩ := lpoly_ok t3 (by decide) (by decide)
  refine ⟨s3, d, f, ?_, h3, p4⟩
  have e0 : (.dct true false [] : D) = DK true [] := rfl
  have ek : okR r2 = true := by simp [okR]; omega
  have f2 := p4.fz
  unfold F__law_drawn_poly runF
  simp [outs, e0, e1, e2, ek, e3, e4, f2]
end G02

namespace G02
open PySem PySem.Spec PyProof.Rows L2 Vl
abbrev W1 : MS := (sSet 1 (fCall F__law_state (fCons [0] [] (fVar 0) fNil)))
abbrev W2 : MS := (sSet 2 (fCallM F__law_drawn_poly 1 (fCons [] [] (fC (.int 6)) fNil)))
abbrev W3 : MS := (sSet 3 (fCallM F__law_drawn_poly 1 (fCons [] [] (fC (.int 5)) fNil)))
abbrev W4 : MS := (sIf (fB (fOp [3] [] gEq (fVar 3) (fTup (fCons [] [] (fC (.int 0)) (fCons [] [] (fTup fNil) fNil))))) (sSet 3 (fTup (fCons [] [] (fOp [] [1] gAdd (fC (.int 1)) (fCallM F__law_draw 1 (fCons [] [] (fC (.int 3)) fNil))) (fCons [] [] (fTup (fCons [] [] (fC (.int 3)) (fCons [] [] (fC (.int 0)) (fCons [] [] (fUn gNeg (fC (.int 2))) fNil)))) fNil)))) sNil)
abbrev W5 : MS := (sSet 4 (fCall F__law_terms (fCons [2] [] (fVar 2) fNil)))
abbrev W6 : MS := (sSet 5 (fCall F__law_terms (fCons [3] [] (fVar 3) fNil)))
abbrev W7 : MS := (sSet 6 (fCall F__law_poly (fCons [] [] (fCall F__law_times (fCons [4] [] (fVar 4) (fCons [5] [] (fVar 5) fNil))) fNil)))
abbrev W8 : MS := (sIf (fOr (fB (fOp [] [] gNe (fCall F_quotient (fCons [6] [] (fVar 6) (fCons [3] [] (fVar 3) fNil))) (fVar 2))) (fNot (fTr (fCall F__law_is_poly (fCons [] [] (fCall F_quotient (fCons [6] [] (fVar 6) (fCons [3] [] (fVar 3) fNil))) fNil))))) (sRet (fC (.bl false))) sNil)
abbrev W9 : MS := (sSet 7 (fCl gDict (fCons [] [] (fCall F__law_terms (fCons [6] [] (fVar 6) fNil)) fNil)))
abbrev W10 : MS := (sSet 8 (fOp [] [] gSub (fCallM F__law_draw 1 (fCons [] [] (fC (.int 9)) fNil)) (fC (.int 4))))
abbrev W11 : MS := (sAsg (gSt 7 (fVar 8)) (fOp [] [1] gAdd (fOp [] [] gAdd (fGet2 [7] [] [] (fVar 7) (fVar 8) (fC (.int 0))) (fC (.int 1))) (fCallM F__law_draw 1 (fCons [] [] (fC (.int 3)) fNil))))
abbrev W12 : MS := (sFor (iSeq (fLst (fCons [] [2] (fCall F__law_poly (fCons [7] [] (fVar 7) fNil)) (fCons [] [] (fAli 2) fNil)))) (gNm 9) (sSeq (sSet 10 (fCall F__law_terms (fCons [9] [] (fVar 9) fNil)))
    (sSeq (sSet 11 fDnew)
    (sSeq (sIf (fB (fOp [] [] gGt (fCl gLen (fCons [10] [] (fVar 10) fNil)) (fC (.int 0)))) (sSet 11 (fCall F__law_divided (fCons [10] [] (fVar 10) (fCons [5] [] (fVar 5) fNil)))) sNil)
    (sSeq (sSet 12 (fCall F_quotient (fCons [9] [] (fVar 9) (fCons [3] [] (fVar 3) fNil))))
    (sIf (fB (fOp [11] [] gIsN (fVar 11) (fC .non))) (sIf (fB (fOp [12] [] gNotN (fVar 12) (fC .non))) (sRet (fC (.bl false))) sNil) (sIf (fOr (fB (fOp [12] [] gNe (fVar 12) (fCall F__law_poly (fCons [11] [] (fVar 11) fNil)))) (fB (fOp [] [] gNe (fCall F_times (fCons [12] [] (fVar 12) (fCons [3] [] (fVar 3) fNil))) (fVar 9)))) (sRet (fC (.bl false))) sNil)))))))
abbrev W13 : MS := (sSet 13 (fCall F_unit_free (fCons [2] [] (fVar 2) fNil)))
abbrev W14 : MS := (sIf (fB (fOp [2] [] gEq (fVar 2) (fTup (fCons [] [] (fC (.int 0)) (fCons [] [] (fTup fNil) fNil))))) (sIf (fB (fOp [13] [] gNe (fVar 13) (fVar 2))) (sRet (fC (.bl false))) sNil) (sSeq (sSet 14 (fOp [] [] gSub (fC (.int 1)) (fOp [] [] gMul (fC (.int 2)) (fCl gInt (fCons [] [] (fOp [2] [] gLt (fOp [2] [] gIxA (fOp [2] [] gIxA (fVar 2) (fC (.int 1))) (fC (.int 0))) (fC (.int 0))) fNil)))))
    (sIf (fB (fOp [13] [15, 15, 15] gNe (fVar 13) (fTup (fCons [] [15, 15, 15] (fC (.int 0)) (fCons [] [] (fCl gTuple (fCons [] [] (fComp [15] (iSeq (fOp [2] [] gIxA (fVar 2) (fC (.int 1)))) (gNm 15) fYes (fOp [14] [] gMul (fVar 14) (fVar 15))) fNil)) fNil))))) (sRet (fC (.bl false))) sNil)))
abbrev W15 : MS := (sSet 16 (chk (fOp [] [1] gIxA (fLst (fCons [] [] (fC (.int 1)) (fCons [] [] (fC (.int 2)) (fCons [] [] (fC (.int 3)) (fCons [] [] (fUn gNeg (fC (.int 1))) (fCons [] [] (fUn gNeg (fC (.int 2))) (fCons [] [] (fUn gNeg (fC (.int 4))) fNil))))))) (fCallM F__law_draw 1 (fCons [] [] (fC (.int 6)) fNil)))))
abbrev W16 : MS := (sSet 17 fDnew)
abbrev W17 : MS := (sDk 4 (sFor (iKy 4) (gNm 8) (sAsg (gSt 17 (fOp [8] [] gMul (fVar 8) (fVar 16))) (fOp [4] [] gIxA (fVar 4) (fVar 8)))))
abbrev W18 : MS := (sIf (fB (fOp [] [] gNe (fCall F_spread (fCons [2] [] (fVar 2) (fCons [16] [] (fVar 16) fNil))) (fCall F__law_poly (fCons [17] [] (fVar 17) fNil)))) (sRet (fC (.bl false))) sNil)
abbrev W19 : MS := (sSet 18 (fTup (fCons [] [] (fOp [] [] gMul (fCl gAbs (fCons [2] [] (fOp [2] [] gIxA (fVar 2) (fC (.int 0))) fNil)) (fCl gInt (fCons [] [] (fOp [2] [] gNe (fVar 2) (fTup (fCons [] [] (fC (.int 0)) (fCons [] [] (fTup fNil) fNil)))) fNil))) (fCons [] [] (chk (fOp [2] [] gIxA (fVar 2) (fC (.int 1)))) fNil))))
abbrev W20 : MS := (sSet 11 fDnew)
abbrev W21 : MS := (sFor (iRg1 (fCons [] [] (fCl gLen (fCons [18] [] (fOp [18] [] gIxA (fVar 18) (fC (.int 1))) fNil)) fNil)) (gNm 8) (sSeq (sSet 19 (fDisp (((fC (.int 0)), (chk (fOp [18] [] gIxA (fOp [18] [] gIxA (fVar 18) (fC (.int 1))) (fVar 8)))) :: [])))
    (sSeq (sFor (iRg1 (fCons [] [] (fOp [18] [] gAdd (fOp [18] [] gIxA (fVar 18) (fC (.int 0))) (fVar 8)) fNil)) (gNm 20) (sSet 19 (fCall F__law_times (fCons [19] [] (fVar 19) (fCons [5] [] (fVar 5) fNil)))))
    (sSet 11 (fCall F__law_plus (fCons [11] [] (fVar 11) (fCons [19] [] (fVar 19) fNil)))))))
abbrev W22 : MS := (sIf (fB (fOp [] [] gNe (fCall F_composed (fCons [18] [] (fVar 18) (fCons [3] [] (fVar 3) fNil))) (fCall F__law_poly (fCons [11] [] (fVar 11) fNil)))) (sRet (fC (.bl false))) sNil)
abbrev W23 : MS := (sFor (iSeq (fLst (fCons [] [] (fC (.int 1)) (fCons [] [] (fUn gNeg (fC (.int 1))) fNil)))) (gNm 15) (sSeq (sSet 21 (fC (.int 0)))
    (sSeq (sDk 4 (sFor (iKy 4) (gNm 8) (sSet 21 (fOp [21] [15] gAdd (fVar 21) (fOp [4] [15] gMul (fOp [4] [] gIxA (fVar 4) (fVar 8)) (fOp [] [] gIxA (fLst (fCons [] [15] (fC (.int 1)) (fCons [] [] (fAli 15) fNil))) (fOp [] [] gMod (fCl gInt (fCons [8] [] (fVar 8) fNil)) (fC (.int 2)))))))))
    (sIf (fB (fOp [] [] gNe (fCall F_value_at (fCons [2] [] (fVar 2) (fCons [15] [] (fVar 15) fNil))) (fVar 21))) (sRet (fC (.bl false))) sNil))))
abbrev W24 : MS := (sRet (fCall F__law_truth (fCons [] [] (fCall F_is_palindrome (fCons [2] [] (fVar 2) fNil)) (fCons [] [] (fOp [2] [] gEq (fOp [2] [] gIxA (fVar 2) (fC (.int 1))) (fRevS (fOp [2] [] gIxA (fVar 2) (fC (.int 1))))) fNil))))
theorem law_split : F_law = runF 1 0 22 (sSeq W1 (sSeq W2 (sSeq W3 (sSeq W4 (sSeq W5 (sSeq W6 (sSeq W7 (sSeq W8 (sSeq W9 (sSeq W10 (sSeq W11 (sSeq W12 (sSeq W13 (sSeq W14 (sSeq W15 (sSeq W16 (sSeq W17 (sSeq W18 (sSeq W19 (sSeq W20 (sSeq W21 (sSeq W22 (sSeq W23 W24))))))))))))))))))))))) := rfl
theorem seq_nx {a b : MS} {ρ ρ' : Vl.Env} (h : a ρ = some (.nx ρ')) : sSeq a b ρ = b ρ' := by
  show (a ρ).bind _ = _
  rw [h]
  rfl
end G02

namespace G02
open PySem PySem.Spec PyProof.Rows L2 Vl
@[simp] theorem gEq_PZ2 (l : Int) (ns : List Int) : gEq (P l ns) (.tup [.int 0, .tup []]) = some (.bl (decide (l = 0 ∧ ns = []))) := gEq_P l 0 ns []
@[simp] theorem gNe_PZ2 (l : Int) (ns : List Int) : gNe (P l ns) (.tup [.int 0, .tup []]) = some (.bl (!decide (l = 0 ∧ ns = []))) := gNe_P l 0 ns []
theorem B0_lt : B0 ≤ 2 ^ 100 := by decide
theorem w4 {s d2 : D} {g : Int → Int} (hs : IsSt s) (h2 : IsP d2 g (-5) 9 B0) (A0 A2 A4 A5 A6 A7 A8 A9 A10 A11 A12 A13 A14 A15 A16 A17 A18 A19 A20 A21 : Option D) : ∃ s' l2 n2 g', W4 [A0, some s, A2, some d2, A4, A5, A6, A7, A8, A9, A10, A11, A12, A13, A14, A15, A16, A17, A18, A19, A20, A21] = some (.nx [A0, some s', A2, some (P l2 n2), A4, A5, A6, A7, A8, A9, A10, A11, A12, A13, A14, A15, A16, A17, A18, A19, A20, A21]) ∧ IsSt s' ∧ IsP (P l2 n2) g' (-5) 9 B0 ∧ n2 ≠ [] := by
  have h2' := h2
  obtain ⟨l, ns, rfl, nn, c, s1, z1⟩ := h2'
  by_cases e : l = 0 ∧ ns = []
  · obtain ⟨r, s', e1, h1, a1, b1⟩ := draw s 3 hs (by decide) (by decide)
    refine ⟨s', 1 + r, [3, 0, -2], coef (1 + r) [3, 0, -2], ?_, h1, ⟨1 + r, [3, 0, -2], rfl, .inr ⟨⟨3, [0, -2], rfl, by decide⟩, [3, 0], -2, rfl, by decide⟩, fun _ => rfl, .inr ⟨by omega, by simp; omega⟩, fun n hn => ?_⟩, by simp⟩
    · simp [e, e1, szOk]
      rfl
    · simp at hn
      rcases hn with rfl | rfl | rfl <;> decide
  · refine ⟨s, l, ns, g, ?_, hs, h2, fun q => e ⟨nn.zero_ q, q⟩⟩
    have hz : gEq (P l ns) (.tup [.int 0, .tup []]) = some (.bl false) := by rw [gEq_PZ2, decide_eq_false e]
    simp [-gEq_PZ2, hz, szOk]
theorem IsP.sz {l : Int} {ns : List Int} {f : Int → Int} {lo hi : Int} {B : Nat} (h : IsP (P l ns) f lo hi B) (b1 : -10000 ≤ lo) (b2 : hi ≤ 10000) : ns.length ≤ 20000 ∧ Nf l ns ∧ (∀ e, coef l ns e = f e) := by
  obtain ⟨l', ns', e, n1, c1, s1, z1⟩ := h
  have e1 : l = l' ∧ ns.map D.int = ns'.map D.int := by simpa [P] using e
  have e2 : ns = ns' := by
    have := congrArg ints? e1.2
    rw [ints_map, ints_map] at this
    exact Option.some.inj this
  obtain ⟨rfl, _⟩ := e1
  subst e2
  refine ⟨?_, n1, c1⟩
  rcases s1 with ⟨s, _⟩ | s
  · rw [s]; simp
  · omega
theorem nz_ends {k2 : List (Int × Int)} {g : Int → Int} {l2 : Int} {n2 : List Int} (h2 : IsP (P l2 n2) g (-5) 9 B0) (hn2 : n2 ≠ []) : Ends g l2 (l2 + ((n2.length - 1 : Nat) : Int)) := by
  obtain ⟨_, nn, c⟩ := h2.sz (by decide) (by decide)
  have := ends_P nn hn2
  rwa [funext c] at this
theorem IsP.in9 {d : D} {f : Int → Int} {lo hi : Int} {B : Nat} (h : IsP d f lo hi B) (h1 : -900 ≤ lo) (h2 : hi ≤ 900) : In9 f := fun e he => h.zero (by omega)
/-! ### quotients -/
abbrev bd1 : MS := (sSet 10 (fCall F__law_terms (fCons [9] [] (fVar 9) fNil)))
abbrev bd2 : MS := (sSet 11 fDnew)
abbrev bd3 : MS := (sIf (fB (fOp [] [] gGt (fCl gLen (fCons [10] [] (fVar 10) fNil)) (fC (.int 0)))) (sSet 11 (fCall F__law_divided (fCons [10] [] (fVar 10) (fCons [5] [] (fVar 5) fNil)))) sNil)
abbrev bd4 : MS := (sSet 12 (fCall F_quotient (fCons [9] [] (fVar 9) (fCons [3] [] (fVar 3) fNil))))
abbrev bdE : MS := (sIf (fB (fOp [11] [] gIsN (fVar 11) (fC .non))) (sIf (fB (fOp [12] [] gNotN (fVar 12) (fC .non))) (sRet (fC (.bl false))) sNil) (sIf (fOr (fB (fOp [12] [] gNe (fVar 12) (fCall F__law_poly (fCons [11] [] (fVar 11) fNil)))) (fB (fOp [] [] gNe (fCall F_times (fCons [12] [] (fVar 12) (fCons [3] [] (fVar 3) fNil))) (fVar 9)))) (sRet (fC (.bl false))) sNil))
abbrev bdB : MS := sSeq bd1 (sSeq bd2 (sSeq bd3 (sSeq bd4 bdE)))
theorem bd_fin {lt l2 : Int} {nt n2 : List Int} {ft g : Int → Int} (ht : IsP (P lt nt) ft (-10) 18 (2 ^ 1000)) (h2 : IsP (P l2 n2) g (-5) 9 B0) (en : Ends g l2 (l2 + ((n2.length - 1 : Nat) : Int))) {r : D} (hr : (r = .non ∧ ¬ Has ft g) ∨ ∃ h, IsP r h (-200) 200 (2 ^ 30000) ∧ In9 h ∧ ∀ e, mul h g e = ft e)
    {rd : D} (hd : (rd = .non ∧ ¬ Has ft g) ∨ ∃ fd H, rd = DK true fd ∧ Tb fd H (-200) 200 (2 ^ 30000) ∧ ∀ e, mul H g e = ft e) (A0 A1 A2 A4 A5 A6 A7 A8 A10 A13 A14 A15 A16 A17 A18 A19 A20 A21 : Option D) :
    bdE [A0, A1, A2, some (P l2 n2), A4, A5, A6, A7, A8, some (P lt nt), A10, some rd, some r, A13, A14, A15, A16, A17, A18, A19, A20, A21] = some (.nx [A0, A1, A2, some (P l2 n2), A4, A5, A6, A7, A8, some (P lt nt), A10, some rd, some r, A13, A14, A15, A16, A17, A18, A19, A20, A21]) := by
  rcases hd with ⟨rfl, hn⟩ | ⟨fd, H, rfl, tf, hm⟩
  · rcases hr with ⟨rfl, _⟩ | ⟨h, _, hs, hm⟩
    · have a1 : gIsN .non .non = some (.bl true) := rfl
      have a2 : gNotN .non .non = some (.bl false) := rfl
      simp [a1, a2]
    · exact absurd ⟨h, hs, hm⟩ hn
  · have Hs : In9 H := fun e he => f_out tf fun h => by have := ks_bd tf h; omega
    rcases hr with ⟨rfl, hn⟩ | ⟨h, pr, hs, hm2⟩
    · exact absurd ⟨H, Hs, hm⟩ hn
    · have hH := mul_inj en hs Hs fun e => by rw [hm, hm2]
      obtain ⟨q, h3, p3⟩ := lpoly_ok tf (by decide) (by decide)
      have er : q = r := p3.uniq (pr.congr hH)
      subst er
      obtain ⟨t, h4, p4⟩ := times_ok2 pr h2 (by decide) (by decide) (by decide) (by decide) (pw_lt (by decide)) (Nat.lt_of_le_of_lt B0_lt (pw_lt (by decide)))
      have et := (p4.congr hm2).uniq ht
      subst et
      have a1 : gIsN (DK true fd) .non = some (.bl false) := rfl
      obtain ⟨l5, n5, rfl, _⟩ := p3
      have a3 := gNe_P l5 l5 n5 n5
      have a4 := gNe_P lt lt nt nt
      simp [a1, h3, a3, h4, a4]
theorem bd_ok {lt l2 : Int} {nt n2 : List Int} {ft g : Int → Int} {k2 : List (Int × Int)} (ht : IsP (P lt nt) ft (-10) 18 (2 ^ 1000)) (h2 : IsP (P l2 n2) g (-5) 9 B0) (hn2 : n2 ≠ []) (t2 : Tb k2 g (-5) 9 B0) (z2 : ∀ p ∈ k2, p.2 ≠ 0) (A0 A1 A2 A4 A6 A7 A8 A10 A11 A12 A13 A14 A15 A16 A17 A18 A19 A20 A21 : Option D) :
    ∃ y10 y11 y12, bdB [A0, A1, A2, some (P l2 n2), A4, some (DK true k2), A6, A7, A8, some (P lt nt), A10, A11, A12, A13, A14, A15, A16, A17, A18, A19, A20, A21] = some (.nx [A0, A1, A2, some (P l2 n2), A4, some (DK true k2), A6, A7, A8, some (P lt nt), y10, y11, y12, A13, A14, A15, A16, A17, A18, A19, A20, A21]) := by
  have en := nz_ends (k2 := k2) h2 hn2
  obtain ⟨kt, h1, tt, zt⟩ := lterms_ok ht (by decide) (by decide) (by decide)
  obtain ⟨r, hq, hr⟩ := quotient_ok (ht.wide (by decide) (by decide) (Nat.le_refl _)) (h2.wide (by decide) (by decide) B0_lt) en
  have e0 : (.dct true false [] : D) = DK true [] := rfl
  have el := len_DK kt
  have g1 : bd1 [A0, A1, A2, some (P l2 n2), A4, some (DK true k2), A6, A7, A8, some (P lt nt), A10, A11, A12, A13, A14, A15, A16, A17, A18, A19, A20, A21] = some (.nx [A0, A1, A2, some (P l2 n2), A4, some (DK true k2), A6, A7, A8, some (P lt nt), some (DK true kt), A11, A12, A13, A14, A15, A16, A17, A18, A19, A20, A21]) := by simp [h1]
  have g2 : bd2 [A0, A1, A2, some (P l2 n2), A4, some (DK true k2), A6, A7, A8, some (P lt nt), some (DK true kt), A11, A12, A13, A14, A15, A16, A17, A18, A19, A20, A21] = some (.nx [A0, A1, A2, some (P l2 n2), A4, some (DK true k2), A6, A7, A8, some (P lt nt), some (DK true kt), some (DK true []), A12, A13, A14, A15, A16, A17, A18, A19, A20, A21]) := by simp [e0]
  have g3 : ∃ rd, ((rd = .non ∧ ¬ Has ft g) ∨ ∃ fd H, rd = DK true fd ∧ Tb fd H (-200) 200 (2 ^ 30000) ∧ ∀ e, mul H g e = ft e) ∧ bd3 [A0, A1, A2, some (P l2 n2), A4, some (DK true k2), A6, A7, A8, some (P lt nt), some (DK true kt), some (DK true []), A12, A13, A14, A15, A16, A17, A18, A19, A20, A21] = some (.nx [A0, A1, A2, some (P l2 n2), A4, some (DK true k2), A6, A7, A8, some (P lt nt), some (DK true kt), some rd, A12, A13, A14, A15, A16, A17, A18, A19, A20, A21]) := by
    by_cases hk : kt = []
    · subst hk
      refine ⟨DK true [], .inr ⟨[], fun _ => 0, rfl, Tb.nil _ _ _, fun e => by rw [mul_zero, ← tt.at_]; rfl⟩, ?_⟩
      simp [el]
    · have hk2 : k2 ≠ [] := fun q => by
        have := en.b0
        rw [← t2.at_, q] at this
        exact this rfl
      obtain ⟨rd, h3, h4⟩ := ldivided_ok tt zt hk (t2.wide (by decide) (by decide) B0_lt) z2 hk2 (by decide) (by decide) (by decide)
      refine ⟨rd, h4, ?_⟩
      have hl : 0 < kt.length := List.length_pos_iff.mpr hk
      have f3 : rd.noFz = true := by
        rcases h4 with ⟨rfl, _⟩ | ⟨fd, H, rfl, _⟩
        · rfl
        · simp
      simp [el, hl, h3, f3]
  obtain ⟨rd, hd, g3⟩ := g3
  have f4 : r.noFz = true := by
    rcases hr with ⟨rfl, _⟩ | ⟨h, pr, _⟩
    · rfl
    · exact pr.fz
  have g4 : bd4 [A0, A1, A2, some (P l2 n2), A4, some (DK true k2), A6, A7, A8, some (P lt nt), some (DK true kt), some rd, A12, A13, A14, A15, A16, A17, A18, A19, A20, A21] = some (.nx [A0, A1, A2, some (P l2 n2), A4, some (DK true k2), A6, A7, A8, some (P lt nt), some (DK true kt), some rd, some r, A13, A14, A15, A16, A17, A18, A19, A20, A21]) := by simp [hq, f4]
  have g5 := bd_fin ht h2 en hr hd A0 A1 A2 A4 (some (DK true k2)) A6 A7 A8 (some (DK true kt)) A13 A14 A15 A16 A17 A18 A19 A20 A21
  refine ⟨some (DK true kt), some rd, some r, ?_⟩
  exact (seq_nx g1).trans ((seq_nx g2).trans ((seq_nx g3).trans ((seq_nx g4).trans g5)))
end G02

namespace G02
open PySem PySem.Spec PyProof.Rows L2 Vl
theorem w1314 {l1 : Int} {n1 : List Int} {f : Int → Int} (h1 : IsP (P l1 n1) f (-5) 9 B0) (A0 A1 A3 A4 A5 A6 A7 A8 A9 A10 A11 A12 A16 A17 A18 A19 A20 A21 : Option D) : ∃ y13 y14, W13 [A0, A1, some (P l1 n1), A3, A4, A5, A6, A7, A8, A9, A10, A11, A12, none, none, none, A16, A17, A18, A19, A20, A21] = some (.nx [A0, A1, some (P l1 n1), A3, A4, A5, A6, A7, A8, A9, A10, A11, A12, some y13, none, none, A16, A17, A18, A19, A20, A21]) ∧
    W14 [A0, A1, some (P l1 n1), A3, A4, A5, A6, A7, A8, A9, A10, A11, A12, some y13, none, none, A16, A17, A18, A19, A20, A21] = some (.nx [A0, A1, some (P l1 n1), A3, A4, A5, A6, A7, A8, A9, A10, A11, A12, some y13, y14, none, A16, A17, A18, A19, A20, A21]) := by
  obtain ⟨hz, nn, c⟩ := h1.sz (by decide) (by decide)
  have hlen : n1.length ≤ 100 := by
    obtain ⟨l', ns', e, _, _, s1, _⟩ := h1
    have e1 : l1 = l' ∧ n1.map D.int = ns'.map D.int := by simpa [P] using e
    have e2 : n1.length = ns'.length := by simpa using congrArg List.length e1.2
    rcases s1 with ⟨s, _⟩ | s
    · rw [e2, s]; simp
    · omega
  by_cases e : l1 = 0 ∧ n1 = []
  · obtain ⟨rfl, rfl⟩ := e
    refine ⟨P 0 [], none, ?_, ?_⟩
    · have : F_unit_free [P 0 []] = some (P 0 [], []) := rfl
      simp [this]
    · have a1 := gNe_P 0 0 [] []
      simp [a1, szOk]
  · have hn : n1 ≠ [] := fun q => e ⟨nn.zero_ q, q⟩
    obtain ⟨a, r, rfl, ha⟩ : ∃ a r, n1 = a :: r ∧ a ≠ 0 := by
      rcases nn with ⟨q, _⟩ | ⟨⟨a, r, q, h⟩, _⟩
      · exact absurd q hn
      · exact ⟨a, r, q, h⟩
    generalize hns : a :: r = n1 at *
    have h0 : n1[0]? = some a := by rw [← hns]; rfl
    have hu := unit_ok l1 a n1 h0 ha (by omega)
    have hzz : gEq (P l1 n1) (.tup [.int 0, .tup []]) = some (.bl false) := by rw [gEq_PZ2, decide_eq_false e]
    refine ⟨P 0 (n1.map fun n => us a * n), some (.int (us a)), ?_, ?_⟩
    · simp [hu]
    · have i1 : L2.atI (n1.map D.int) 0 = some (.int a) := atI_i (ns := n1) (k := 0) h0
      have hus : us a = 1 ∨ us a = -1 := by unfold us; split <;> omega
      have e1 : gMul (.int 2) (.int (if a < 0 then 1 else 0)) = some (.int (2 * (if a < 0 then 1 else 0))) := gMul_i (cMul_r (by split <;> decide))
      have e2 : gInt [.bl (decide (a < 0))] = some (.int (if a < 0 then 1 else 0)) := by
        by_cases q : a < 0
        · rw [decide_eq_true q, if_pos q]; rfl
        · rw [decide_eq_false q, if_neg q]; rfl
      have e3 : (1 : Int) - 2 * (if a < 0 then 1 else 0) = us a := rfl
      have hc : fComp [15] (iSeq (fOp [2] [] gIxA (fVar 2) (fC (.int 1)))) (gNm 15) fYes (fOp [14] [] gMul (fVar 14) (fVar 15)) [A0, A1, some (P l1 n1), A3, A4, A5, A6, A7, A8, A9, A10, A11, A12, some (P 0 (n1.map fun n => us a * n)), some (.int (us a)), none, A16, A17, A18, A19, A20, A21] = some (.lst true ((n1.map fun n => us a * n).map .int), [A0, A1, some (P l1 n1), A3, A4, A5, A6, A7, A8, A9, A10, A11, A12, some (P 0 (n1.map fun n => us a * n)), some (.int (us a)), none, A16, A17, A18, A19, A20, A21]) := by
        rw [← map_int (fun d => match d with | .int i => .int (us a * i) | d => d) (fun n => us a * n) fun i => rfl]
        have it := items_t n1
        refine fComp_all _ (by simp) (by simp [ownOk]) (fun d hd => ?_) (by simp; omega)
        obtain ⟨k, _, rfl⟩ := List.mem_map.mp hd
        have e4 : gMul (.int (us a)) (.int k) = some (.int (us a * k)) := gMul_i (by
          have : (us a).natAbs < 2 ^ 63 := by rcases hus with q | q <;> rw [q] <;> decide
          simp [cMul, this])
        simp [e4]
      have g2 := gTuple_l true (n1.map fun n => us a * n)
      have a1 := gNe_P 0 0 (n1.map fun n => us a * n) (n1.map fun n => us a * n)
      have a2 : gNe (P 0 (n1.map fun n => us a * n)) (.tup [.int 0, .tup ((n1.map fun n => us a * n).map .int)]) = some (.bl false) := by
        show gNe (P 0 _) (P 0 _) = _
        rw [a1]
        simp
      simp [-gEq_PZ2, -fComp_r, -List.map_map, hzz, szOk, i1, e1, e2, e3, hc, g2, a2]
theorem w17 {k1 : List (Int × Int)} {f : Int → Int} (t1 : Tb k1 f (-5) 9 B0) (s : Int) (hs : s ≠ 0) (hs4 : -4 ≤ s ∧ s ≤ 4) (o : Bool) (A0 A1 A2 A3 A5 A6 A7 A8 A9 A10 A11 A12 A13 A14 A15 A18 A19 A20 A21 : Option D) : ∃ kv y8, W17 [A0, A1, A2, A3, some (DK o k1), A5, A6, A7, A8, A9, A10, A11, A12, A13, A14, A15, some (.int s), some (DK true []), A18, A19, A20, A21] = some (.nx [A0, A1, A2, A3, some (DK false k1), A5, A6, A7, y8, A9, A10, A11, A12, A13, A14, A15, some (.int s), some (DK true kv), A18, A19, A20, A21]) ∧ Tb kv (sp s f) (-300) 300 B0 := by
  obtain ⟨kv, y8, gp, h1, h2, h3⟩ := put_loop 8 (sAsg (gSt 17 (fOp [8] [] gMul (fVar 8) (fVar 16))) (fOp [4] [] gIxA (fVar 4) (fVar 8))) (fun a x => [A0, A1, A2, A3, some (DK false k1), A5, A6, A7, x, A9, A10, A11, A12, A13, A14, A15, some (.int s), some (DK true a), A18, A19, A20, A21]) (fun k => k * s) f (-300) 300 B0 (by decide) (ks k1) [] _ A8 (Tb.nil _ _ _) (fun k hk a x hl => by
    have b := ks_bd t1 hk
    have e1 := DK_get (o := false) (lk_f t1 hk)
    have e2 : gMul (.int k) (.int s) = some (.int (k * s)) := gMul_i (cMul_r (by omega))
    have e3 := DK_set (kv := a) (k * s) (f k) hl
    simp [e1, e2, e3]) (fun k hk => by
    have b := ks_bd t1 hk
    have := mul_in k s (by omega) hs4
    exact ⟨by omega, by omega, t1.abs k⟩)
  refine ⟨kv, y8, ?_, h2.congr fun e => ?_⟩
  · have q1 : fzSlot 4 [A0, A1, A2, A3, some (DK o k1), A5, A6, A7, A8, A9, A10, A11, A12, A13, A14, A15, some (.int s), some (DK true []), A18, A19, A20, A21] = some [A0, A1, A2, A3, some (DK false k1), A5, A6, A7, A8, A9, A10, A11, A12, A13, A14, A15, some (.int s), some (DK true []), A18, A19, A20, A21] := fz_DK o k1 _ 4 rfl
    have q3 := keys_DK false k1 [A0, A1, A2, A3, some (DK false k1), A5, A6, A7, A8, A9, A10, A11, A12, A13, A14, A15, some (.int s), some (DK true []), A18, A19, A20, A21] 4 rfl
    simp [-iKy_r, -sAsg_r, q1, q3, h1]
  · unfold sp
    rcases h3 e with ⟨a, b⟩ | ⟨k, hk, a, b⟩
    · rw [b]
      by_cases q : e % s = 0
      · rw [if_pos q]
        refine (f_out t1 fun h => a _ h ?_).symm
        exact Int.ediv_mul_cancel (Int.dvd_of_emod_eq_zero q)
      · rw [if_neg q]
    · rw [b, ← a, Int.mul_emod_left, if_pos rfl, Int.mul_ediv_cancel _ hs]
theorem w23_in {k1 : List (Int × Int)} {f : Int → Int} (t1 : Tb k1 f (-5) 9 B0) (x : Int) (hx : x = 1 ∨ x = -1) (A0 A1 A2 A3 A5 A6 A7 A9 A10 A11 A12 A13 A14 A16 A17 A18 A19 A20 : Option D) : ∀ (rest : List (Int × Int)) (v : Int) (x8 : Option D), (∀ p ∈ rest, p ∈ k1) →
    ∃ y8, forL (gNm 8) (sSet 21 (fOp [21] [15] gAdd (fVar 21) (fOp [4] [15] gMul (fOp [4] [] gIxA (fVar 4) (fVar 8)) (fOp [] [] gIxA (fLst (fCons [] [15] (fC (.int 1)) (fCons [] [] (fAli 15) fNil))) (fOp [] [] gMod (fCl gInt (fCons [8] [] (fVar 8) fNil)) (fC (.int 2))))))) ((ks rest).map .int) [A0, A1, A2, A3, some (DK false k1), A5, A6, A7, x8, A9, A10, A11, A12, A13, A14, some (.int x), A16, A17, A18, A19, A20, some (.int v)] = some (.nx [A0, A1, A2, A3, some (DK false k1), A5, A6, A7, y8, A9, A10, A11, A12, A13, A14, some (.int x), A16, A17, A18, A19, A20, some (.int (v + sm rest (fun e => wt x (-e)) 0))])
  | [], v, x8, _ => ⟨x8, by
    rw [show sm [] (fun e => wt x (-e)) 0 = 0 from rfl, Int.add_zero]
    rfl⟩
  | p :: r, v, x8, h => by
    have hv : lk k1 p.1 = some p.2 := lk_of t1.nd (show (p.1, p.2) ∈ k1 from h p List.mem_cons_self)
    have e1 := DK_get (o := false) hv
    have e2 : gMod (.int p.1) (.int 2) = some (.int (p.1.fmod 2)) := gMod_i (by decide)
    have e3 : L2.atI [D.int 1, .int x] (p.1.fmod 2) = some (.int (wt x p.1)) := by
      have h0 : 0 ≤ p.1.fmod 2 := fmod_lo (by decide)
      have h1 : p.1.fmod 2 < 2 := fmod_hi (by decide)
      unfold wt
      by_cases q : p.1.fmod 2 = 0
      · rw [q]; rfl
      · rw [if_neg q, show p.1.fmod 2 = 1 by omega]; rfl
    have e4 : gMul (.int p.2) (.int (wt x p.1)) = some (.int (p.2 * wt x p.1)) := gMul_i (cMul_r (by unfold wt; split <;> omega))
    obtain ⟨y8, h2⟩ := w23_in t1 x hx A0 A1 A2 A3 A5 A6 A7 A9 A10 A11 A12 A13 A14 A16 A17 A18 A19 A20 r (v + p.2 * wt x p.1) (some (.int p.1)) fun q hq => h q (List.mem_cons_of_mem _ hq)
    refine ⟨y8, ?_⟩
    have e5 : v + sm (p :: r) (fun e => wt x (-e)) 0 = v + p.2 * wt x p.1 + sm r (fun e => wt x (-e)) 0 := by
      show v + (p.2 * wt x (-(0 - p.1)) + _) = _
      rw [show -(0 - p.1) = p.1 by omega]
      omega
    rw [e5]
    show forL _ _ (.int p.1 :: (ks r).map .int) _ = _
    rw [forL]
    simp [e1, e2, e3, e4, szOk]
    exact h2
theorem w23 {l1 : Int} {n1 : List Int} {k1 : List (Int × Int)} {f : Int → Int} (h1 : IsP (P l1 n1) f (-5) 9 B0) (t1 : Tb k1 f (-5) 9 B0) (A0 A1 A3 A5 A6 A7 A9 A10 A11 A12 A13 A14 A16 A17 A18 A19 A20 : Option D) : ∀ (its : List Int) (x8 x15 x21 : Option D), (∀ x ∈ its, x = 1 ∨ x = -1) →
    ∃ y8 y15 y21, forL (gNm 15) (sSeq (sSet 21 (fC (.int 0)))
    (sSeq (sDk 4 (sFor (iKy 4) (gNm 8) (sSet 21 (fOp [21] [15] gAdd (fVar 21) (fOp [4] [15] gMul (fOp [4] [] gIxA (fVar 4) (fVar 8)) (fOp [] [] gIxA (fLst (fCons [] [15] (fC (.int 1)) (fCons [] [] (fAli 15) fNil))) (fOp [] [] gMod (fCl gInt (fCons [8] [] (fVar 8) fNil)) (fC (.int 2)))))))))
    (sIf (fB (fOp [] [] gNe (fCall F_value_at (fCons [2] [] (fVar 2) (fCons [15] [] (fVar 15) fNil))) (fVar 21))) (sRet (fC (.bl false))) sNil))) (its.map .int) [A0, A1, some (P l1 n1), A3, some (DK false k1), A5, A6, A7, x8, A9, A10, A11, A12, A13, A14, x15, A16, A17, A18, A19, A20, x21] = some (.nx [A0, A1, some (P l1 n1), A3, some (DK false k1), A5, A6, A7, y8, A9, A10, A11, A12, A13, A14, y15, A16, A17, A18, A19, A20, y21])
  | [], x8, x15, x21, _ => ⟨x8, x15, x21, rfl⟩
  | x :: r, x8, x15, x21, h => by
    have hx := h x List.mem_cons_self
    obtain ⟨y8, g1⟩ := w23_in t1 x hx A0 A1 (some (P l1 n1)) A3 A5 A6 A7 A9 A10 A11 A12 A13 A14 A16 A17 A18 A19 A20 k1 0 x8 fun _ h => h
    obtain ⟨z8, z15, z21, g2⟩ := w23 h1 t1 A0 A1 A3 A5 A6 A7 A9 A10 A11 A12 A13 A14 A16 A17 A18 A19 A20 r y8 (some (.int x)) (some (.int (0 + sm k1 (fun e => wt x (-e)) 0))) fun y hy => h y (List.mem_cons_of_mem _ hy)
    refine ⟨z8, z15, z21, ?_⟩
    obtain ⟨_, nn, c⟩ := h1.sz (by decide) (by decide)
    have hv := value_ok l1 n1 x hx
    rw [wt_val hx, ← cv_wt hx, ← sm_cv (fun e => wt x (-e)) 0 n1 l1 k1 t1.nd (fun e => by rw [t1.at_, c])] at hv
    have q1 : fzSlot 4 [A0, A1, some (P l1 n1), A3, some (DK false k1), A5, A6, A7, x8, A9, A10, A11, A12, A13, A14, some (.int x), A16, A17, A18, A19, A20, some (.int 0)] = some [A0, A1, some (P l1 n1), A3, some (DK false k1), A5, A6, A7, x8, A9, A10, A11, A12, A13, A14, some (.int x), A16, A17, A18, A19, A20, some (.int 0)] := fz_DK false k1 _ 4 rfl
    have q3 := keys_DK false k1 [A0, A1, some (P l1 n1), A3, some (DK false k1), A5, A6, A7, x8, A9, A10, A11, A12, A13, A14, some (.int x), A16, A17, A18, A19, A20, some (.int 0)] 4 rfl
    rw [Int.zero_add] at g1 g2
    rw [List.map_cons, forL]
    simp [-iKy_r, -fGet2_r, q1, q3, g1, hv]
    exact g2
end G02

namespace G02
open PySem PySem.Spec PyProof.Rows L2 Vl
theorem run_rt {np n : Nat} {b : MS} {ds : List D} {d : D} {ρ : Vl.Env} (hl : ds.length = np) (h : b (ds.map some ++ List.replicate (n - np) none) = some (.rt d ρ)) : runF np 0 n b ds = some (d, []) := by
  unfold runF
  rw [if_pos hl, h]
  rfl
theorem law_true (ns : List Int) (hl : ns.length ≤ 63) (hb : ∀ z ∈ ns, Builtin.Int.intBits z ≤ 1048576) : F_law [.scr (ns.map .int)] = some (.bl true, []) := by
  obtain ⟨s0, e1, i0⟩ := state_ok ns hl
  obtain ⟨s1, d1, f1, e2, i1, p1⟩ := drawn_ok s0 i0 6 (by decide)
  obtain ⟨s2, d2, f2, e3, i2, p2⟩ := drawn_ok s1 i1 5 (by decide)
  have fs : (D.scr (ns.map .int)).frz = .scr (ns.map .int) := by simp [D.frz]
  have fo : (D.scr (ns.map .int)).noOwn = true := by simp [D.noOwn]
  have hp1 := p1
  obtain ⟨l1, n1, rfl, nn1, c1, s1', z1'⟩ := hp1
  have e0 : (.dct true false [] : D) = DK true [] := rfl
  have g1 : W1 [some (.scr (ns.map .int)), none, none, none, none, none, none, none, none, none, none, none, none, none, none, none, none, none, none, none, none, none] = some (.nx [some (.scr (ns.map .int)), some s0, none, none, none, none, none, none, none, none, none, none, none, none, none, none, none, none, none, none, none, none]) := by simp [e1, fs, fo]
  have g2 : W2 [some (.scr (ns.map .int)), some s0, none, none, none, none, none, none, none, none, none, none, none, none, none, none, none, none, none, none, none, none] = some (.nx [some (.scr (ns.map .int)), some s1, some (P l1 n1), none, none, none, none, none, none, none, none, none, none, none, none, none, none, none, none, none, none, none]) := by simp [e2]
  have g3 : W3 [some (.scr (ns.map .int)), some s1, some (P l1 n1), none, none, none, none, none, none, none, none, none, none, none, none, none, none, none, none, none, none, none] = some (.nx [some (.scr (ns.map .int)), some s2, some (P l1 n1), some d2, none, none, none, none, none, none, none, none, none, none, none, none, none, none, none, none, none, none]) := by simp [e3]
  obtain ⟨s3, l2, n2, f3, g4, i3, p3, hn2⟩ := w4 i2 p2 (some (.scr (ns.map .int))) (some (P l1 n1)) (none) (none) (none) (none) (none) (none) (none) (none) (none) (none) (none) (none) (none) (none) (none) (none) (none) (none)
  have en := nz_ends (k2 := []) p3 hn2
  obtain ⟨k1, e5, t1, z1⟩ := lterms_ok p1 (by decide) (by decide) (by decide)
  obtain ⟨k2, e6, t2, z2⟩ := lterms_ok p3 (by decide) (by decide) (by decide)
  have g5 : W5 [some (.scr (ns.map .int)), some s3, some (P l1 n1), some (P l2 n2), none, none, none, none, none, none, none, none, none, none, none, none, none, none, none, none, none, none] = some (.nx [some (.scr (ns.map .int)), some s3, some (P l1 n1), some (P l2 n2), some (DK true k1), none, none, none, none, none, none, none, none, none, none, none, none, none, none, none, none, none]) := by simp [e5]
  have g6 : W6 [some (.scr (ns.map .int)), some s3, some (P l1 n1), some (P l2 n2), some (DK true k1), none, none, none, none, none, none, none, none, none, none, none, none, none, none, none, none, none] = some (.nx [some (.scr (ns.map .int)), some s3, some (P l1 n1), some (P l2 n2), some (DK true k1), some (DK true k2), none, none, none, none, none, none, none, none, none, none, none, none, none, none, none, none]) := by simp [e6]
  obtain ⟨kw, e7, tw, _⟩ := ltimes_ok2 t1 t2 (by decide) (by decide) (by decide) (by decide) (Nat.lt_of_le_of_lt B0_lt (pw_lt (by decide))) (Nat.lt_of_le_of_lt B0_lt (pw_lt (by decide)))
  have tw := tw.wide (lo' := -10) (hi' := 18) (B' := 2 ^ 900) (by decide) (by decide) (Nat.le_trans (show 20000 * (B0 * B0) ≤ 2 ^ 200 by decide) (pow_le2 (by decide)))
  obtain ⟨dw, e7b, pw⟩ := lpoly_ok tw (by decide) (by decide)
  have fw := pw.fz
  have hpw := pw
  obtain ⟨lw, nw, rfl, _⟩ := hpw
  have g7 : W7 [some (.scr (ns.map .int)), some s3, some (P l1 n1), some (P l2 n2), some (DK true k1), some (DK true k2), none, none, none, none, none, none, none, none, none, none, none, none, none, none, none, none] = some (.nx [some (.scr (ns.map .int)), some s3, some (P l1 n1), some (P l2 n2), some (DK true k1), some (DK true k2), some (P lw nw), none, none, none, none, none, none, none, none, none, none, none, none, none, none, none]) := by simp [e7, e7b]
  obtain ⟨r8, e8, h8⟩ := quotient_ok (pw.wide (by decide) (by decide) (pow_le2 (by decide))) (p3.wide (by decide) (by decide) B0_lt) en
  have e8 : F_quotient [P lw nw, P l2 n2] = some (P l1 n1, []) := by
    rcases h8 with ⟨_, h⟩ | ⟨h, pr, hs, hm⟩
    · exact absurd ⟨f1, p1.in9 (by decide) (by decide), fun _ => rfl⟩ h
    · have := mul_inj en hs (p1.in9 (by decide) (by decide)) hm
      rw [e8, (pr.congr this).uniq p1]
  have sz1 := p1.sz (by decide) (by decide)
  have e8b : F__law_is_poly [P l1 n1] = some (.bl true, []) := by
    obtain ⟨b, h1, h2⟩ := lisP_ok l1 n1 (by omega)
    rw [h1, h2.mpr nn1]
  have n8 := gNe_P l1 l1 n1 n1
  have g8 : W8 [some (.scr (ns.map .int)), some s3, some (P l1 n1), some (P l2 n2), some (DK true k1), some (DK true k2), some (P lw nw), none, none, none, none, none, none, none, none, none, none, none, none, none, none, none] = some (.nx [some (.scr (ns.map .int)), some s3, some (P l1 n1), some (P l2 n2), some (DK true k1), some (DK true k2), some (P lw nw), none, none, none, none, none, none, none, none, none, none, none, none, none, none, none]) := by simp [e8, e8b, n8, D.noOwn, D.frz, D.noFz]
  obtain ⟨k9, e9, t9, _⟩ := lterms_ok pw (by decide) (by decide) (by decide)
  have e9b := dict_DK true k9
  have g9 : W9 [some (.scr (ns.map .int)), some s3, some (P l1 n1), some (P l2 n2), some (DK true k1), some (DK true k2), some (P lw nw), none, none, none, none, none, none, none, none, none, none, none, none, none, none, none] = some (.nx [some (.scr (ns.map .int)), some s3, some (P l1 n1), some (P l2 n2), some (DK true k1), some (DK true k2), some (P lw nw), some (DK true k9), none, none, none, none, none, none, none, none, none, none, none, none, none, none]) := by simp [e9, e9b]
  obtain ⟨r10, s10, e10, i10, a10, b10⟩ := draw s3 9 i3 (by decide) (by decide)
  have g10 : W10 [some (.scr (ns.map .int)), some s3, some (P l1 n1), some (P l2 n2), some (DK true k1), some (DK true k2), some (P lw nw), some (DK true k9), none, none, none, none, none, none, none, none, none, none, none, none, none, none] = some (.nx [some (.scr (ns.map .int)), some s10, some (P l1 n1), some (P l2 n2), some (DK true k1), some (DK true k2), some (P lw nw), some (DK true k9), some (.int (r10 - 4)), none, none, none, none, none, none, none, none, none, none, none, none, none]) := by simp [e10]
  obtain ⟨r11, s11, e11, i11, a11, b11⟩ := draw s10 3 i10 (by decide) (by decide)
  have gg2 := DK_get2 true k9 (r10 - 4) 0
  have ggs := DK_set (kv := k9) (r10 - 4) ((lk k9 (r10 - 4)).getD 0 + 1 + r11) (by have := t9.len; omega)
  have ab := t9.abs (r10 - 4)
  have t11 := (t9.wide (B' := 2 ^ 1000) (Int.le_refl _) (Int.le_refl _) (pow_le2 (by decide))).put (k := r10 - 4) (v := (lk k9 (r10 - 4)).getD 0 + 1 + r11) ⟨by omega, by omega, by
    rw [t9.at_]
    have : 2 ^ 900 + 10 ≤ 2 ^ 1000 := Nat.le_trans (show 2 ^ 900 + 10 ≤ 2 ^ 900 + 2 ^ 900 from Nat.add_le_add_left (Nat.le_trans (show 10 ≤ 2 ^ 4 by decide) (pow_le2 (by decide))) _) (by rw [← Nat.two_mul, Nat.mul_comm, ← Nat.pow_succ]; exact pow_le2 (by decide))
    omega⟩
  have g11 : W11 [some (.scr (ns.map .int)), some s10, some (P l1 n1), some (P l2 n2), some (DK true k1), some (DK true k2), some (P lw nw), some (DK true k9), some (.int (r10 - 4)), none, none, none, none, none, none, none, none, none, none, none, none, none] = some (.nx [some (.scr (ns.map .int)), some s11, some (P l1 n1), some (P l2 n2), some (DK true k1), some (DK true k2), some (P lw nw), some (DK true (pt k9 (r10 - 4) ((lk k9 (r10 - 4)).getD 0 + 1 + r11))), some (.int (r10 - 4)), none, none, none, none, none, none, none, none, none, none, none, none, none]) := by simp [gg2, e11, ggs]
  generalize pt k9 (r10 - 4) ((lk k9 (r10 - 4)).getD 0 + 1 + r11) = k11 at g11 t11
  obtain ⟨d12, e12, p12⟩ := lpoly_ok t11 (by decide) (by decide)
  have hp12 := p12
  obtain ⟨l12, n12, rfl, _⟩ := hp12
  obtain ⟨y10, y11, y12, b12a⟩ := bd_ok p12 p3 hn2 t2 z2 (some (.scr (ns.map .int))) (some s11) (some (P l1 n1)) (some (DK true k1)) (some (P lw nw)) (some (DK true k11)) (some (.int (r10 - 4))) (none) (none) (none) (none) (none) (none) (none) (none) (none) (none) (none) (none)
  obtain ⟨x10, x11, x12, b12b⟩ := bd_ok (p1.wide (by decide) (by decide) (Nat.le_trans B0_lt (pow_le2 (by decide)))) p3 hn2 t2 z2 (some (.scr (ns.map .int))) (some s11) (some (P l1 n1)) (some (DK true k1)) (some (P lw nw)) (some (DK true k11)) (some (.int (r10 - 4))) (y10) (y11) (y12) (none) (none) (none) (none) (none) (none) (none) (none) (none)
  have g12 : W12 [some (.scr (ns.map .int)), some s11, some (P l1 n1), some (P l2 n2), some (DK true k1), some (DK true k2), some (P lw nw), some (DK true k11), some (.int (r10 - 4)), none, none, none, none, none, none, none, none, none, none, none, none, none] = some (.nx [some (.scr (ns.map .int)), some s11, some (P l1 n1), some (P l2 n2), some (DK true k1), some (DK true k2), some (P lw nw), some (DK true k11), some (.int (r10 - 4)), some (P l1 n1), x10, x11, x12, none, none, none, none, none, none, none, none, none]) := by
    have hi : iSeq (fLst (fCons [] [2] (fCall F__law_poly (fCons [7] [] (fVar 7) fNil)) (fCons [] [] (fAli 2) fNil))) [some (.scr (ns.map .int)), some s11, some (P l1 n1), some (P l2 n2), some (DK true k1), some (DK true k2), some (P lw nw), some (DK true k11), some (.int (r10 - 4)), none, none, none, none, none, none, none, none, none, none, none, none, none] = some ([P l12 n12, P l1 n1], [some (.scr (ns.map .int)), some s11, some (P l1 n1), some (P l2 n2), some (DK true k1), some (DK true k2), some (P lw nw), some (DK true k11), some (.int (r10 - 4)), none, none, none, none, none, none, none, none, none, none, none, none, none]) := by simp [e12, szOk, itemsOf]
    show (iSeq _ _).bind _ = _
    rw [hi, Option.bind_some]
    show forL (gNm 9) bdB [P l12 n12, P l1 n1] _ = _
    rw [forL]
    show (bdB [some (.scr (ns.map .int)), some s11, some (P l1 n1), some (P l2 n2), some (DK true k1), some (DK true k2), some (P lw nw), some (DK true k11), some (.int (r10 - 4)), some (P l12 n12), none, none, none, none, none, none, none, none, none, none, none, none]).bind _ = _
    rw [b12a, Option.bind_some]
    show forL (gNm 9) bdB [P l1 n1] _ = _
    rw [forL]
    show (bdB [some (.scr (ns.map .int)), some s11, some (P l1 n1), some (P l2 n2), some (DK true k1), some (DK true k2), some (P lw nw), some (DK true k11), some (.int (r10 - 4)), some (P l1 n1), y10, y11, y12, none, none, none, none, none, none, none, none, none]).bind _ = _
    rw [b12b, Option.bind_some]
    rfl
  obtain ⟨y13, y14, g13, g14⟩ := w1314 p1 (some (.scr (ns.map .int))) (some s11) (some (P l2 n2)) (some (DK true k1)) (some (DK true k2)) (some (P lw nw)) (some (DK true k11)) (some (.int (r10 - 4))) (some (P l1 n1)) (x10) (x11) (x12) (none) (none) (none) (none) (none) (none)
  obtain ⟨r15, s15, e15, i15, a15, b15⟩ := draw s11 6 i11 (by decide) (by decide)
  obtain ⟨st, hst, hst0, hst4⟩ : ∃ st : Int, L2.atI [D.int 1, .int 2, .int 3, .int (-1), .int (-2), .int (-4)] r15 = some (.int st) ∧ st ≠ 0 ∧ (-4 ≤ st ∧ st ≤ 4) := by
    have h : r15 = 0 ∨ r15 = 1 ∨ r15 = 2 ∨ r15 = 3 ∨ r15 = 4 ∨ r15 = 5 := by omega
    rcases h with rfl | rfl | rfl | rfl | rfl | rfl
    · exact ⟨1, rfl, by decide, by decide⟩
    · exact ⟨2, rfl, by decide, by decide⟩
    · exact ⟨3, rfl, by decide, by decide⟩
    · exact ⟨-1, rfl, by decide, by decide⟩
    · exact ⟨-2, rfl, by decide, by decide⟩
    · exact ⟨-4, rfl, by decide, by decide⟩
  have g15 : W15 [some (.scr (ns.map .int)), some s11, some (P l1 n1), some (P l2 n2), some (DK true k1), some (DK true k2), some (P lw nw), some (DK true k11), some (.int (r10 - 4)), some (P l1 n1), x10, x11, x12, some y13, y14, none, none, none, none, none, none, none] = some (.nx [some (.scr (ns.map .int)), some s15, some (P l1 n1), some (P l2 n2), some (DK true k1), some (DK true k2), some (P lw nw), some (DK true k11), some (.int (r10 - 4)), some (P l1 n1), x10, x11, x12, some y13, y14, none, some (.int st), none, none, none, none, none]) := by simp [szOk, e15, hst]
  have g16 : W16 [some (.scr (ns.map .int)), some s15, some (P l1 n1), some (P l2 n2), some (DK true k1), some (DK true k2), some (P lw nw), some (DK true k11), some (.int (r10 - 4)), some (P l1 n1), x10, x11, x12, some y13, y14, none, some (.int st), none, none, none, none, none] = some (.nx [some (.scr (ns.map .int)), some s15, some (P l1 n1), some (P l2 n2), some (DK true k1), some (DK true k2), some (P lw nw), some (DK true k11), some (.int (r10 - 4)), some (P l1 n1), x10, x11, x12, some y13, y14, none, some (.int st), some (DK true []), none, none, none, none]) := by simp [e0]
  obtain ⟨k17, y8, g17, t17⟩ := w17 t1 st hst0 hst4 true (some (.scr (ns.map .int))) (some s15) (some (P l1 n1)) (some (P l2 n2)) (some (DK true k2)) (some (P lw nw)) (some (DK true k11)) (some (.int (r10 - 4))) (some (P l1 n1)) (x10) (x11) (x12) (some y13) (y14) (none) (none) (none) (none) (none)
  obtain ⟨r18, e18, p18⟩ := spread_ok (p1.wide (by decide) (by decide) (Nat.le_refl _)) st hst0 hst4
  obtain ⟨r18b, e18b, p18b⟩ := lpoly_ok t17 (by decide) (by decide)
  have q18 := p18.uniq p18b
  subst q18
  obtain ⟨l18, n18, rfl, _⟩ := p18
  have n18 := gNe_P l18 l18 n18 n18
  have g18 : W18 [some (.scr (ns.map .int)), some s15, some (P l1 n1), some (P l2 n2), some (DK false k1), some (DK true k2), some (P lw nw), some (DK true k11), y8, some (P l1 n1), x10, x11, x12, some y13, y14, none, some (.int st), some (DK true k17), none, none, none, none] = some (.nx [some (.scr (ns.map .int)), some s15, some (P l1 n1), some (P l2 n2), some (DK false k1), some (DK true k2), some (P lw nw), some (DK true k11), y8, some (P l1 n1), x10, x11, x12, some y13, y14, none, some (.int st), some (DK true k17), none, none, none, none]) := by simp [e18, e18b, n18]
  have bl : (l1.natAbs : Int) + (n1.length : Int) ≤ 20 ∧ (l1.natAbs : Int) ≤ 9 := by
    obtain ⟨l', ns', e, _, _, q, _⟩ := p1
    have e1 : l1 = l' ∧ n1.map D.int = ns'.map D.int := by simpa [P] using e
    have e2 : n1.length = ns'.length := by simpa using congrArg List.length e1.2
    rcases q with ⟨q, q2⟩ | q
    · rw [e2, q, e1.1, q2]; simp
    · omega
  have z1n : ∀ n ∈ n1, n.natAbs ≤ 2 ^ 100 := fun n hn => Nat.le_trans (z1' n hn) B0_lt
  have g19 : W19 [some (.scr (ns.map .int)), some s15, some (P l1 n1), some (P l2 n2), some (DK false k1), some (DK true k2), some (P lw nw), some (DK true k11), y8, some (P l1 n1), x10, x11, x12, some y13, y14, none, some (.int st), some (DK true k17), none, none, none, none] = some (.nx [some (.scr (ns.map .int)), some s15, some (P l1 n1), some (P l2 n2), some (DK false k1), some (DK true k2), some (P lw nw), some (DK true k11), y8, some (P l1 n1), x10, x11, x12, some y13, y14, none, some (.int st), some (DK true k17), some (P (l1.natAbs : Nat) n1), none, none, none]) := by 
    have g1 : gAbs [.int l1] = some (.int (l1.natAbs : Nat)) := by
      show some (D.int (if l1 < 0 then -l1 else l1)) = _
      congr 2
      split <;> omega
    by_cases q : l1 = 0 ∧ n1 = []
    · obtain ⟨rfl, rfl⟩ := q
      have a1 : gNe (P 0 []) (.tup [.int 0, .tup []]) = some (.bl false) := gNe_P 0 0 [] []
      have a2 : gInt [.bl false] = some (.int 0) := rfl
      have a3 : gMul (.int 0) (.int 0) = some (.int 0) := gMul_i (cMul_r (by decide))
      have a4 : gAbs [.int 0] = some (.int 0) := rfl
      simp [-gNe_PZ2, a1, a2, a3, a4, szOk]
      rfl
    · have a1 : gNe (P l1 n1) (.tup [.int 0, .tup []]) = some (.bl true) := by rw [gNe_PZ2, decide_eq_false q]; rfl
      have a2 : gInt [.bl true] = some (.int 1) := rfl
      have a3 : gMul (.int (l1.natAbs : Nat)) (.int 1) = some (.int (l1.natAbs : Nat)) := by rw [gMul_i (cMul_r (by decide)), Int.mul_one]
      simp [-gNe_PZ2, g1, a1, a2, a3, szOk]
      rfl
  have g20 : W20 [some (.scr (ns.map .int)), some s15, some (P l1 n1), some (P l2 n2), some (DK false k1), some (DK true k2), some (P lw nw), some (DK true k11), y8, some (P l1 n1), x10, x11, x12, some y13, y14, none, some (.int st), some (DK true k17), some (P (l1.natAbs : Nat) n1), none, none, none] = some (.nx [some (.scr (ns.map .int)), some s15, some (P l1 n1), some (P l2 n2), some (DK false k1), some (DK true k2), some (P lw nw), some (DK true k11), y8, some (P l1 n1), x10, some (DK true []), x12, some y13, y14, none, some (.int st), some (DK true k17), some (P (l1.natAbs : Nat) n1), none, none, none]) := by simp [e0]
  have hsz : ∀ e, sF f3 (fun k => coef (l1.natAbs : Nat) n1 (k : Nat)) (l1.natAbs + 0) e = 0 := fun e => sF_zero _ _ _ (fun k hk => coef_out (.inl (by omega))) e
  obtain ⟨k21, z8, z19, z20, e21, t21⟩ := cm_out (t2.wide (by decide) (by decide) B0_lt) l1.natAbs n1 z1n (by omega) (some (.scr (ns.map .int))) (some s15) (some (P l1 n1)) (some (P l2 n2)) (some (DK false k1)) (some (P lw nw)) (some (DK true k11)) (some (P l1 n1)) (x10) (x12) (some y13) (y14) (none) (some (.int st)) (some (DK true k17)) (none) n1.length 0 [] (y8) (none) (none) (by omega) ((Tb.nil _ _ _).congr fun e => (hsz e).symm)
  have g21 : W21 [some (.scr (ns.map .int)), some s15, some (P l1 n1), some (P l2 n2), some (DK false k1), some (DK true k2), some (P lw nw), some (DK true k11), y8, some (P l1 n1), x10, some (DK true []), x12, some y13, y14, none, some (.int st), some (DK true k17), some (P (l1.natAbs : Nat) n1), none, none, none] = some (.nx [some (.scr (ns.map .int)), some s15, some (P l1 n1), some (P l2 n2), some (DK false k1), some (DK true k2), some (P lw nw), some (DK true k11), z8, some (P l1 n1), x10, some (DK true k21), x12, some y13, y14, none, some (.int st), some (DK true k17), some (P (l1.natAbs : Nat) n1), z19, z20, none]) := by
    have er : rgItems 0 n1.length = (List.range' 0 n1.length).map fun k => D.int (k : Nat) := by
      unfold rgItems
      rw [List.range_eq_range']
      exact List.map_congr_left fun k _ => by rw [Int.zero_add]
    have ek : okR ((n1.length : Nat) : Int) = true := by simp [okR]; omega
    have hi : iRg1 (fCons [] [] (fCl gLen (fCons [18] [] (fOp [18] [] gIxA (fVar 18) (fC (.int 1))) fNil)) fNil) [some (.scr (ns.map .int)), some s15, some (P l1 n1), some (P l2 n2), some (DK false k1), some (DK true k2), some (P lw nw), some (DK true k11), y8, some (P l1 n1), x10, some (DK true []), x12, some y13, y14, none, some (.int st), some (DK true k17), some (P (l1.natAbs : Nat) n1), none, none, none] = some ((List.range' 0 n1.length).map (fun k => D.int (k : Nat)), [some (.scr (ns.map .int)), some s15, some (P l1 n1), some (P l2 n2), some (DK false k1), some (DK true k2), some (P lw nw), some (DK true k11), y8, some (P l1 n1), x10, some (DK true []), x12, some y13, y14, none, some (.int st), some (DK true k17), some (P (l1.natAbs : Nat) n1), none, none, none]) := by
      rw [← er]
      simp [ek]
    show (iRg1 _ _).bind _ = _
    rw [hi, Option.bind_some]
    exact e21
  obtain ⟨r22, e22, p22⟩ := composed_ok (l1.natAbs : Nat) n1 (p3.wide (by decide) (by decide) B0_lt) z1n (by omega) bl.1
  obtain ⟨r22b, e22b, p22b⟩ := lpoly_ok t21 (by decide) (by decide)
  have q22 := p22.uniq (p22b.congr fun e => by rw [show ((l1.natAbs : Nat) : Int) + (n1.length : Int) = ((l1.natAbs + n1.length : Nat) : Int) by omega, Int.toNat_natCast])
  subst q22
  obtain ⟨l22, n22, rfl, _⟩ := p22
  have n22 := gNe_P l22 l22 n22 n22
  have g22 : W22 [some (.scr (ns.map .int)), some s15, some (P l1 n1), some (P l2 n2), some (DK false k1), some (DK true k2), some (P lw nw), some (DK true k11), z8, some (P l1 n1), x10, some (DK true k21), x12, some y13, y14, none, some (.int st), some (DK true k17), some (P (l1.natAbs : Nat) n1), z19, z20, none] = some (.nx [some (.scr (ns.map .int)), some s15, some (P l1 n1), some (P l2 n2), some (DK false k1), some (DK true k2), some (P lw nw), some (DK true k11), z8, some (P l1 n1), x10, some (DK true k21), x12, some y13, y14, none, some (.int st), some (DK true k17), some (P (l1.natAbs : Nat) n1), z19, z20, none]) := by simp [e22, e22b, n22]
  obtain ⟨v8, v15, v21, e23⟩ := w23 p1 t1 (some (.scr (ns.map .int))) (some s15) (some (P l2 n2)) (some (DK true k2)) (some (P lw nw)) (some (DK true k11)) (some (P l1 n1)) (x10) (some (DK true k21)) (x12) (some y13) (y14) (some (.int st)) (some (DK true k17)) (some (P (l1.natAbs : Nat) n1)) (z19) (z20) [1, -1] (z8) (none) (none) (by simp)
  have g23 : W23 [some (.scr (ns.map .int)), some s15, some (P l1 n1), some (P l2 n2), some (DK false k1), some (DK true k2), some (P lw nw), some (DK true k11), z8, some (P l1 n1), x10, some (DK true k21), x12, some y13, y14, none, some (.int st), some (DK true k17), some (P (l1.natAbs : Nat) n1), z19, z20, none] = some (.nx [some (.scr (ns.map .int)), some s15, some (P l1 n1), some (P l2 n2), some (DK false k1), some (DK true k2), some (P lw nw), some (DK true k11), v8, some (P l1 n1), x10, some (DK true k21), x12, some y13, y14, v15, some (.int st), some (DK true k17), some (P (l1.natAbs : Nat) n1), z19, z20, v21]) := by
    have hi : iSeq (fLst (fCons [] [] (fC (.int 1)) (fCons [] [] (fUn gNeg (fC (.int 1))) fNil))) [some (.scr (ns.map .int)), some s15, some (P l1 n1), some (P l2 n2), some (DK false k1), some (DK true k2), some (P lw nw), some (DK true k11), z8, some (P l1 n1), x10, some (DK true k21), x12, some y13, y14, none, some (.int st), some (DK true k17), some (P (l1.natAbs : Nat) n1), z19, z20, none] = some ([.int 1, .int (-1)], [some (.scr (ns.map .int)), some s15, some (P l1 n1), some (P l2 n2), some (DK false k1), some (DK true k2), some (P lw nw), some (DK true k11), z8, some (P l1 n1), x10, some (DK true k21), x12, some y13, y14, none, some (.int st), some (DK true k17), some (P (l1.natAbs : Nat) n1), z19, z20, none]) := by simp [szOk, itemsOf]
    show (iSeq _ _).bind _ = _
    rw [hi, Option.bind_some]
    exact e23
  have e24 := palin_ok l1 n1
  have n24 := gEq_t n1 n1.reverse
  have r24 : gRevS (.tup (n1.map .int)) = some (.tup (n1.reverse.map .int)) := by
    show (if D.noOwnL (n1.map D.int) = true then some (D.tup (n1.map D.int).reverse) else none) = _
    rw [if_pos (noOwnL_ints n1), List.map_reverse]
  have et := truth_ok (decide (n1 = n1.reverse)) _ rfl
  have g24 : W24 [some (.scr (ns.map .int)), some s15, some (P l1 n1), some (P l2 n2), some (DK false k1), some (DK true k2), some (P lw nw), some (DK true k11), v8, some (P l1 n1), x10, some (DK true k21), x12, some y13, y14, v15, some (.int st), some (DK true k17), some (P (l1.natAbs : Nat) n1), z19, z20, v21] = some (.rt (.bl true) [some (.scr (ns.map .int)), some s15, some (P l1 n1), some (P l2 n2), some (DK false k1), some (DK true k2), some (P lw nw), some (DK true k11), v8, some (P l1 n1), x10, some (DK true k21), x12, some y13, y14, v15, some (.int st), some (DK true k17), some (P (l1.natAbs : Nat) n1), z19, z20, v21]) := by
    have ez : ∀ b, (D.bl b).noFz = true := fun _ => rfl
    have ey : ∀ b, (D.bl b).noOwn = true := fun _ => rfl
    have ex : ∀ b, (D.bl b).frz = .bl b := fun _ => rfl
    simp [-List.map_reverse, e24, n24, r24, et, ez, ey, ex]
  rw [law_split]
  refine run_rt (ρ := [some (.scr (ns.map .int)), some s15, some (P l1 n1), some (P l2 n2), some (DK false k1), some (DK true k2), some (P lw nw), some (DK true k11), v8, some (P l1 n1), x10, some (DK true k21), x12, some y13, y14, v15, some (.int st), some (DK true k17), some (P (l1.natAbs : Nat) n1), z19, z20, v21]) rfl ?_
  refine (seq_nx g1).trans ?_
  refine (seq_nx g2).trans ?_
  refine (seq_nx g3).trans ?_
  refine (seq_nx g4).trans ?_
  refine (seq_nx g5).trans ?_
  refine (seq_nx g6).trans ?_
  refine (seq_nx g7).trans ?_
  refine (seq_nx g8).trans ?_
  refine (seq_nx g9).trans ?_
  refine (seq_nx g10).trans ?_
  refine (seq_nx g11).trans ?_
  refine (seq_nx g12).trans ?_
  refine (seq_nx g13).trans ?_
  refine (seq_nx g14).trans ?_
  refine (seq_nx g15).trans ?_
  refine (seq_nx g16).trans ?_
  refine (seq_nx g17).trans ?_
  refine (seq_nx g18).trans ?_
  refine (seq_nx g19).trans ?_
  refine (seq_nx g20).trans ?_
  refine (seq_nx g21).trans ?_
  refine (seq_nx g22).trans ?_
  refine (seq_nx g23).trans ?_
  exact g24
end G02

end
open PySem PySem.W PyProof.Rows
set_option maxHeartbeats 0 in
theorem PySem.Challenge.cw_knotsooth_k02_quotients_and_exchanged_le_holds : PySem.Challenge.rw_knotsooth_k02_quotients_and_exchanged_le.Holds := by
  w_on; o_law; k_head; (case hw => w_witness2)
  k_fill
  refine L2.walk_ofB (l := PySem.Challenge.rw_knotsooth_k02_quotients_and_exchanged_le) (n := 63) (k := 4) (x := "script") (CX := fun _ => L2.CX0) (sp := fun w => Vl.spV _ 1 0 G02.F_law) rfl (by decide) rfl ⟨rfl, by decide, by decide⟩ (fun w h Y => PySem.W.kIn_of Y) ?F (fun w H a ns hl hb ho hs => Vl.law_sp G02.law_true H a ns hl hb ho hs) (fun _ _ _ _ _ h => h)
  case F =>
    intro w mg fa h KX G hmg
    refine' G02.all_mk KX G hmg ?a0 ?l0 ?c0 ?k0 ?a1 ?l1 ?c1 ?k1 ?a2 ?l2 ?c2 ?k2 ?a3 ?l3 ?c3 ?k3 ?a4 ?l4 ?c4 ?k4 ?a5 ?l5 ?c5 ?k5 ?a6 ?l6 ?c6 ?k6 ?a7 ?l7 ?c7 ?k7 ?a8 ?l8 ?c8 ?k8 ?a9 ?l9 ?c9 ?k9 ?a10 ?l10 ?c10 ?k10 ?a11 ?l11 ?c11 ?k11 ?a12 ?l12 ?c12 ?k12 ?a13 ?l13 ?c13 ?k13 ?a14 ?l14 ?c14 ?k14 ?a15 ?l15 ?c15 ?k15 ?a16 ?l16 ?c16 ?k16 ?a17 ?l17 ?c17 ?k17 ?a18 ?l18 ?c18 ?k18 ?a19 ?l19 ?c19 ?k19 ?a20 ?l20 ?c20 ?k20 ?a21 ?l21 ?c21 ?k21 ?a22 ?l22 ?c22 ?k22 ?z_abs ?z_any ?z_bool ?z_dict ?z_enumerate ?z_int ?z_isinstance ?z_len ?z_list ?z_max ?z_min ?z_range ?z_reversed ?z_sorted ?z_tuple ?b_ZERO ?q_ZERO_0 ?q_ZERO_2 
    (case a0 => k_is); (case l0 => k_is); (case c0 => k_is); (case k0 => k_is); (case a1 => k_is); (case l1 => k_is); (case c1 => k_is); (case k1 => k_is); (case a2 => k_is); (case l2 => k_is); (case c2 => k_is); (case k2 => k_is); (case a3 => k_is); (case l3 => k_is); (case c3 => k_is); (case k3 => k_is); (case a4 => k_is); (case l4 => k_is); (case c4 => k_is); (case k4 => k_is); (case a5 => k_is); (case l5 => k_is); (case c5 => k_is); (case k5 => k_is); (case a6 => k_is); (case l6 => k_is); (case c6 => k_is); (case k6 => k_is); (case a7 => k_is); (case l7 => k_is); (case c7 => k_is); (case k7 => k_is); (case a8 => k_is); (case l8 => k_is); (case c8 => k_is); (case k8 => k_is); (case a9 => k_is); (case l9 => k_is); (case c9 => k_is); (case k9 => k_is); (case a10 => k_is); (case l10 => k_is); (case c10 => k_is); (case k10 => k_is); (case a11 => k_is); (case l11 => k_is); (case c11 => k_is); (case k11 => k_is); (case a12 => k_is); (case l12 => k_is); (case c12 => k_is); (case k12 => k_is); (case a13 => k_is); (case l13 => k_is); (case c13 => k_is); (case k13 => k_is); (case a14 => k_is); (case l14 => k_is); (case c14 => k_is); (case k14 => k_is); (case a15 => k_is); (case l15 => k_is); (case c15 => k_is); (case k15 => k_is); (case a16 => k_is); (case l16 => k_is); (case c16 => k_is); (case k16 => k_is); (case a17 => k_is); (case l17 => k_is); (case c17 => k_is); (case k17 => k_is); (case a18 => k_is); (case l18 => k_is); (case c18 => k_is); (case k18 => k_is); (case a19 => k_is); (case l19 => k_is); (case c19 => k_is); (case k19 => k_is); (case a20 => k_is); (case l20 => k_is); (case c20 => k_is); (case k20 => k_is); (case a21 => k_is); (case l21 => k_is); (case c21 => k_is); (case k21 => k_is); (case a22 => k_is); (case l22 => k_is); (case c22 => k_is); (case k22 => k_is); (case z_abs => k_is); (case z_any => k_is); (case z_bool => k_is); (case z_dict => k_is); (case z_enumerate => k_is); (case z_int => k_is); (case z_isinstance => k_is); (case z_len => k_is); (case z_list => k_is); (case z_max => k_is); (case z_min => k_is); (case z_range => k_is); (case z_reversed => k_is); (case z_sorted => k_is); (case z_tuple => k_is); (case b_ZERO => k_is); (case q_ZERO_0 => k_is); (case q_ZERO_2 => k_is)
